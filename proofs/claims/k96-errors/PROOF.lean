import PyProof.Rows.All
import HandS.Base
import HandS.Words
import HandS.Defaults
import HandS.ExcInit
import HandS.ExcField
import HandS.ExcIs
import KE.KExcSuper
import HandS.Head0
import HandS.Head1
import HandS.Head2
import HandS.HeadEnd
import HandS.HeadHook1
import HandS.HeadHook2
import HandS.HeadHook3
import HandS.HeadHook4
import PyProof.ExcBaseAll.ValueError
import KE.SortData
import KE.SortKeyHeap
import KE.DataCmp
import KE.DataMinMax
import PyProof.P3In
import HandS.List
import Wide.All
import OpenK.AllK
import Wide.FinOn
import PyProof.EqAt
import PyProof.EqKinds
import PyProof.TupleCall
import HandS.Call
import HandS.Comp
import HandS.Ends
import HandS.Exc
import HandS.WordsExc
import HandS.Walk
import HandS.ExcValue
import HandS.Nested
import HandS.TupAny
import HandS.IsInst
import HandS.Deep
import HandS.Sort
import HandS.Dict
import HandS.RaiseMore
import PyProof.ReprRoads
import HandS.More
import HandS.Lambda
import HandS.HeadWalk
import HandS.MakeKwOnly
import HandS.ExcOwn
import HandS.Zip
import HandS.Iter
import HandS.Style
import HandS.EndTab
import PySem.Challenge.RW_waitless_k96_errors_of_all_parts
set_option Elab.async false
set_option linter.all false
/-! IpCore: data, small terms, their meaning in plain Lean. -/
namespace Ip

/-! ### data -/
inductive D where
  | non | bl (b : Bool) | int (i : Int) | str (s : List Nat)
  | tup (xs : List D) | lst (xs : List D) | dct (kvs : List (D × D))
  | rng (lo hi : Int) | glo (c : Nat) | ty (n : String) | exc (c : Nat) (fs : List (String × D))
  deriving Inhabited

mutual
/-- the same data -/
def D.same : D → D → Bool
  | .non, .non => true
  | .bl a, .bl b => a == b
  | .int a, .int b => decide (a = b)
  | .str a, .str b => decide (a = b)
  | .tup a, .tup b => sameL a b
  | .lst a, .lst b => sameL a b
  | .dct a, .dct b => sameP a b
  | .rng a b, .rng c d => decide (a = c) && decide (b = d)
  | .glo a, .glo b => decide (a = b)
  | .ty a, .ty b => decide (a = b)
  | .exc a f, .exc b g => decide (a = b) && sameF f g
  | _, _ => false
def sameL : List D → List D → Bool
  | [], [] => true
  | x :: xs, y :: ys => D.same x y && sameL xs ys
  | _, _ => false
def sameP : List (D × D) → List (D × D) → Bool
  | [], [] => true
  | (x, u) :: xs, (y, v) :: ys => D.same x y && D.same u v && sameP xs ys
  | _, _ => false
def sameF : List (String × D) → List (String × D) → Bool
  | [], [] => true
  | (x, u) :: xs, (y, v) :: ys => decide (x = y) && D.same u v && sameF xs ys
  | _, _ => false
end
mutual
theorem D.same_eq : ∀ (x y : D), D.same x y = true ↔ x = y
  | .non, y => by cases y <;> simp [D.same]
  | .bl a, y => by cases y <;> simp [D.same]
  | .int a, y => by cases y <;> simp [D.same]
  | .str a, y => by cases y <;> simp [D.same]
  | .tup a, y => by
    cases y with
    | tup b => simp only [D.same, D.tup.injEq]; exact sameL_eq a b
    | _ => simp [D.same]
  | .lst a, y => by
    cases y with
    | lst b => simp only [D.same, D.lst.injEq]; exact sameL_eq a b
    | _ => simp [D.same]
  | .dct a, y => by
    cases y with
    | dct b => simp only [D.same, D.dct.injEq]; exact sameP_eq a b
    | _ => simp [D.same]
  | .rng a b, y => by cases y <;> simp [D.same]
  | .glo a, y => by cases y <;> simp [D.same]
  | .ty a, y => by cases y <;> simp [D.same]
  | .exc a f, y => by
    cases y with
    | exc b g => simp only [D.same, D.exc.injEq, Bool.and_eq_true, decide_eq_true_eq]; rw [sameF_eq f g]
    | _ => simp [D.same]
theorem sameL_eq : ∀ (x y : List D), sameL x y = true ↔ x = y
  | [], [] => by simp [sameL]
  | [], _ :: _ => by simp [sameL]
  | _ :: _, [] => by simp [sameL]
  | x :: xs, y :: ys => by simp only [sameL, Bool.and_eq_true, List.cons.injEq]; rw [D.same_eq x y, sameL_eq xs ys]
theorem sameP_eq : ∀ (x y : List (D × D)), sameP x y = true ↔ x = y
  | [], [] => by simp [sameP]
  | [], _ :: _ => by simp [sameP]
  | _ :: _, [] => by simp [sameP]
  | (x, u) :: xs, (y, v) :: ys => by simp only [sameP, Bool.and_eq_true, List.cons.injEq, Prod.mk.injEq]; rw [D.same_eq x y, D.same_eq u v, sameP_eq xs ys]
theorem sameF_eq : ∀ (x y : List (String × D)), sameF x y = true ↔ x = y
  | [], [] => by simp [sameF]
  | [], _ :: _ => by simp [sameF]
  | _ :: _, [] => by simp [sameF]
  | (x, u) :: xs, (y, v) :: ys => by simp only [sameF, Bool.and_eq_true, List.cons.injEq, Prod.mk.injEq, decide_eq_true_eq]; rw [D.same_eq u v, sameF_eq xs ys]
end
instance : DecidableEq D := fun x y => decidable_of_iff _ (D.same_eq x y)

/-- a value of the run: data, an object of the run's own heap, a lambda with its cells -/
inductive W where
  | d (x : D) | ref (n : Nat) | clo (l : Nat) (cs : List Nat)
  deriving DecidableEq, Inhabited
/-- an object of the run's own heap -/
inductive VO where
  | dead | lst (xs : List W) | dct (kvs : List (D × W)) | cel (w : Option W)
  deriving DecidableEq, Inhabited
abbrev Hv := List VO

/-! ### order, equality -/
mutual
/-- Python's == of plain data -/
def eqv : D → D → Bool
  | .non, .non => true
  | .bl a, .bl b => a == b
  | .bl a, .int j => (if a then 1 else 0) == j
  | .int i, .bl b => i == (if b then 1 else 0)
  | .int i, .int j => i == j
  | .str x, .str y => x == y
  | .lst xs, .lst ys => eqvL xs ys
  | .tup xs, .tup ys => eqvL xs ys
  | _, _ => false
def eqvL : List D → List D → Bool
  | [], [] => true
  | x :: xs, y :: ys => eqv x y && eqvL xs ys
  | _, _ => false
end
mutual
/-- plain data of a depth: it can be compared by == -/
def plain : Nat → D → Bool
  | _, .non => true
  | _, .bl _ => true
  | _, .int _ => true
  | _, .str _ => true
  | n + 1, .lst xs => plainL n xs
  | n + 1, .tup xs => plainL n xs
  | _, _ => false
def plainL : Nat → List D → Bool
  | _, [] => true
  | n, x :: xs => plain n x && plainL n xs
end
/-- numbers, texts, tuples: data that a dict may have as a key -/
def b2i (b : Bool) : Int := if b then 1 else 0
mutual
def keyB : Nat → D → Bool
  | _, .int _ => true
  | _, .str _ => true
  | n + 1, .tup xs => keyBL n xs
  | _, _ => false
def keyBL : Nat → List D → Bool
  | _, [] => true
  | n, x :: xs => keyB n x && keyBL n xs
end
mutual
/-- a total order: by kind, then by value -/
def cmpD : D → D → Ordering
  | .int i, .int j => compare i j
  | .int i, .bl b => compare i (b2i b)
  | .bl a, .int j => compare (b2i a) j
  | .bl a, .bl b => compare (b2i a) (b2i b)
  | .str x, .str y => compare x y
  | .tup xs, .tup ys => cmpL xs ys
  | .lst xs, .lst ys => cmpL xs ys
  | _, _ => .eq
def cmpL : List D → List D → Ordering
  | [], [] => .eq
  | [], _ :: _ => .lt
  | _ :: _, [] => .gt
  | x :: xs, y :: ys => (cmpD x y).then (cmpL xs ys)
end
/-- a shape: data of one shape can be compared by < -/
inductive Sh where
  | int | str | tup (ss : List Sh) | seq (s : Sh)
  deriving Inhabited
mutual
def Sh.has : Sh → D → Bool
  | .int, .int _ => true
  | .str, .str _ => true
  | .tup ss, .tup xs => hasL ss xs
  | .seq s, .tup xs => hasA s xs
  | _, _ => false
def hasL : List Sh → List D → Bool
  | [], [] => true
  | s :: ss, x :: xs => s.has x && hasL ss xs
  | _, _ => false
def hasA : Sh → List D → Bool
  | _, [] => true
  | s, x :: xs => s.has x && hasA s xs
end
def sv (s : List Nat) : PySem.Str := ⟨s.toArray⟩
end Ip

set_option Elab.async false
set_option linter.all false
set_option maxRecDepth 100000
set_option maxHeartbeats 400000
/-! IpLook: the look at the written part: what a law's head asks. -/
namespace Ip
open PySem PySem.Spec PyProof.Rows L2
open He (ga ma Fa DefD SaysD obsD valD frG AlD emptyTab lookup_mem frG_mem tabsB cT emptyTab_eq)
structure Tb where
  gs : List Str
  ft : List (Str × Nat)
  ks : List (Str × D)
  pl : List Nat
  /-- the classes of exceptions with an attribute; the defs that catch: name, class -/
  xi : List (Nat × String)
  ct : List (Str × Nat)
  /-- calls by keywords: the def, the names, where each parameter's value stands -/
  kw : List (Nat × List Str × List Nat)
def bltL : List Str := ["len", "abs", "int", "min", "max", "sorted", "list", "tuple", "dict", "set", "sum", "any", "all", "repr", "str", "range", "isinstance", "ord", "reversed", "bool", "enumerate", "zip", "super", "ValueError"]
def notStar0 : Expr → Bool
  | .Starred _ _ => false
  | _ => true
def xiL : List Str := ["corner", "at", "hand", "line", "most", "paper"]
def xiPar (ps : Arguments) (f : Str) : Bool := match ps with
  | ⟨[], [a, b], none, [], [], none, []⟩ => decide (a.arg = "self") && decide (b.arg = f)
  | _ => false
def xiBody (b : List Stmt) (f : Str) : Bool := match b with
  | [.Expr (.Call (.Attribute (.Call (.Name s _) [] [] _) i ap) [.Constant (.str _) _ _] [] p) _, .Assign [.Attribute (.Name x _) g _] (.Name y _) _] =>
      decide (s = "super") && decide (i = "__init__") && decide (x = "self") && decide (g = f) && decide (y = f) && decide (ap.endLine = p.line)
  | _ => false
def xiScope (sc : Scope) (f : Str) : Bool := decide (sc.kind = .function) && !sc.isCoroutine && !sc.isGenerator && sc.names.all (fun y => y.2 != .cell) && sc.names.all (fun y => !(y.2 == .free) || decide (y.1 = "__class__")) &&
  decide (sc.names.lookup ("self" : Str) = some .local) && decide (sc.names.lookup f = some .local) && decide (sc.names.lookup ("__class__" : Str) = some .free) && decide (sc.names.lookup ("super" : Str) = some .globalImplicit)
def oexB (K : PySem.W.Frag) (C : Addr) : Bool := (match K.lookup C with
  | some ⟨.type t, _, .cls ⟨_, _, .ref c :: bm, _, _, true, _, _, _, _, false⟩, ⟨[_, _, _, _, some (.builtin id), _]⟩⟩ => decide (t = "type") && decide (c = C) && PySem.HandSPX.refsVE bm && decide (id = "ValueError.__new__")
  | _ => false) && decide (PySem.W.findIn K (.ref C) "__setattr__" = some (some (.builtin "object.__setattr__"))) && decide (PySem.W.subIn K (.ref C) (.type "BaseException") = some true) && decide (PySem.W.typeIn K (.ref C) = some (.type "type")) && PySem.W.keepIn K (.ref C)
def xicB (K : PySem.W.Frag) (C : Addr) (f : Str) : Bool := oexB K C && (decide (PySem.W.findIn K (.ref C) f = some none) && (decide (PySem.W.ks_superIn K C C "__init__" = some (some (.builtin "ValueError.__init__"))) && (decide (PySem.W.subIn K (.ref C) (.type "ValueError") = some true) &&
  (decide (PySem.W.mroIn K C (.ref C) = some true) && (decide (PySem.W.nsIn K cStatics "thirdparty.any" = some none) && decide (f ∈ xiL))))))
def cellB (K : PySem.W.Frag) (cc C : Addr) : Bool := match K.lookup cc with
  | some ⟨_, _, .cell (some (.ref c)), _⟩ => decide (c = C)
  | _ => false
def codeB (P : Program) (K : PySem.W.Frag) (cda : Addr) : Bool := match K.lookup cda with
  | some ⟨_, _, .fields vs, _⟩ => (match (vs[2]? : Option Value) with
    | some (.str file _) => (P.main.file : Str) == file
    | _ => false)
  | _ => false
def xifB (P : Program) (K : PySem.W.Frag) (C fI : Addr) (f : Str) : Bool := match K.lookup fI with
  | some ⟨_, _, .func ⟨nm, qual, params, .stmts body, scope, gl, [(n0, cc)], .none, .none, _, _, _, .ref cda, _, bn⟩, _⟩ => decide (nm = "__init__") && (decide (gl = mainGlobals) && (decide (bn = builtinsNs) && (decide (n0 = "__class__") &&
      (PySem.W.codeIn K (.ref cda) qual && (xiPar params f && (xiBody body f && (xiScope scope f && (cellB K cc C && codeB P K cda))))))))
  | _ => false
def sysB (K : PySem.W.Frag) : Bool := match K.lookup sysModules with
  | some ⟨_, _, .dict _ _, _⟩ => true
  | _ => false
def excB (K : PySem.W.Frag) (D : Addr) : Bool :=
  decide (PySem.W.findIn K (.ref D) "__getattribute__" = some (some (.builtin "BaseException.__getattribute__"))) && (decide (PySem.W.findIn K (.ref D) "__getattr__" = some none) && (decide (PySem.W.subIn K (.ref D) (.type "BaseException") = some true) && (PySem.W.hasDictIn K D &&
  (decide (PySem.W.findIn K (.ref D) "__class__" = some (some (.builtin "object.__class__"))) && (decide (PySem.W.specialIn K (.builtin "object.__class__") "__get__" = some (some (.builtin "getset_descriptor.__get__"))) && (decide (PySem.W.takesIn K (.builtin "object.__class__") = some true) && decide (PySem.W.mroIn K D (.type "object") = some true)))))))
def ksB (K : PySem.W.Frag) (x : Str) : D → Bool
  | .int i => (Fa.int x i).ok K
  | .str s => (Fa.str x (sv s)).ok K
  | _ => false
def veB : List Value := [.type "ValueError", .type "Exception", .type "BaseException", .type "object"]
def subA (anc : Nat → List Nat) (i j : Nat) : Bool := (anc i).contains j
def clB (K : PySem.W.Frag) (C : Addr) : Bool := (PySem.W.clsIn K C).isSome && PySem.W.typeIn K (.ref C) == some (.type "type")
def mrB (gs : List Str) (anc : Nat → List Nat) (K : PySem.W.Frag) (i : Nat) (C : Addr) : Bool := (anc i).contains i && ((anc i).all (fun k => decide (k < gs.length)) && (PySem.W.clsIn K C).any fun cd => cd.mro == (anc i).map (fun k => Value.ref (ga K (gs.getD k Str.empty))) ++ veB)
def incB : List Nat → Bool
  | a :: b :: r => decide (a < b) && incB (b :: r)
  | _ => true
def allX (B : Tb) : List Nat := B.pl ++ B.xi.map (·.1)
def factsB (P : Program) (B : Tb) (anc : Nat → List Nat) (xi : Nat → Option String) (K : PySem.W.Frag) : Bool :=
  (B.gs.all (fun x => (Fa.glo x).ok K) && B.ft.all (fun p => (Fa.glo p.1).ok K)) && (bltL.all (fun x => (Fa.free x).ok K) && (B.ks.all (fun p => ksB K p.1 p.2) &&
  (B.pl.all (fun j => match B.gs[j]? with
    | some x => (Fa.exc x).ok K && excB K (ga K x)
    | none => true) &&
  (((allX B).all (fun i => match B.gs[i]? with
    | some x => mrB B.gs anc K i (ga K x) && decide (PySem.W.subIn K (.ref (ga K x)) (.type "BaseException") = some true)
    | none => true) && (B.gs.all (fun x => clB K (ga K x)) && incB (B.gs.map (ga K)))) &&
  ((allX B).all (fun i => match B.gs[i]? with
    | some x => decide (PySem.W.kitOne K (.ref (ga K x)) (.type "ValueError") = some true)
    | none => true) &&
  (B.xi.all (fun p => match B.gs[p.1]? with
    | some x => xifB P K (ga K x) (He.ma K (ga K x) "__init__") p.2 && (xicB K (ga K x) p.2 && (decide (PySem.W.findIn K (.ref (ga K x)) "__init__" = some (some (.ref (He.ma K (ga K x) "__init__")))) && (decide (PySem.W.typeIn K (.ref (He.ma K (ga K x) "__init__")) = some (.type "function")) && (xfB K (ga K x) && excB K (ga K x)))))
    | none => true) && (B.pl.all (fun j => (xi j).isNone) && (B.xi.all (fun p => decide (xi p.1 = some p.2)) && (sysB K && (B.ct.all (fun p => (Fa.glo p.1).ok K) && (B.xi.isEmpty || !(P.main.scope.names.lookup ("super" : Str)).isSome)))))))))))
def isLs (o : Obj) : Bool := match o.cls with
  | .type c => decide (c = "list")
  | _ => false
/-- the kept part: what the top names, without lists and empty tables -/
def kept (g : Addr → Option Obj) (as : List Addr) : PySem.W.Frag := (frG g as).filter fun q => !(isLs q.2 || emptyTab q.2)
theorem kept_mem {g : Addr → Option Obj} {as : List Addr} {a : Addr} {o : Obj} (h : (kept g as).lookup a = some o) : g a = some o ∧ isLs o = false ∧ emptyTab o = false := by
  obtain ⟨h1, h2⟩ := List.mem_filter.mp (lookup_mem h)
  simp only [Bool.not_eq_true', Bool.or_eq_false_iff] at h2
  exact ⟨frG_mem h1, h2.1, h2.2⟩
theorem kept_in {as : List Addr} {h : Heap} : (kept h.get? as).In h := fun _ _ e => (kept_mem e).1
/-- what the look says -/
structure Says (fn : List DefD) (tf : List He.Defn) (ex : PySem.W.Frag → Bool) (h : Heap) (K : PySem.W.Frag) : Prop where
  d : SaysD [] fn K
  more : ex K = true
  nol : ∀ a o, K.lookup a = some o → isLs o = false
  hd : ∀ p ∈ tf, PySem.W.codeHdIn K (cT K p).1 (cT K p).2 = true
  out : ∀ p ∈ tf, K.lookup (cT K p).2 = none
  empty : ∀ p ∈ tf, h.get? (cT K p).2 = some { cls := .none, data := .fields #[] }
/-- what is looked at: the module's names, the classes, their namespaces, the defs, their code -/
def adr (g : Addr → Option Obj) (x : Str) : Addr := He.ga (frG g [mainGlobals]) x
def nsA (g : Addr → Option Obj) (C : Addr) : List Addr := match g C with
  | some ⟨_, _, .cls cd, _⟩ => [cd.ns]
  | _ => []
def codA (g : Addr → Option Obj) (f : Addr) : List Addr := match g f with
  | some ⟨_, _, .func fd, _⟩ => He.refV fd.code ++ fd.closure.map (·.2)
  | _ => []
def asE (B : Tb) (g : Addr → Option Obj) : List Addr := mainGlobals :: ((B.gs.flatMap fun x => adr g x :: nsA g (adr g x)) ++ (((B.ft ++ B.ct).flatMap fun p => adr g p.1 :: codA g (adr g p.1)) ++ ((B.xi.flatMap fun p => match B.gs[p.1]? with
  | some x => He.ma (frG g (adr g x :: nsA g (adr g x))) (adr g x) "__init__" :: codA g (He.ma (frG g (adr g x :: nsA g (adr g x))) (adr g x) "__init__")
  | none => []) ++ [cStatics, sysModules])))
abbrev AlN : Type := AlD × Bool
def obsN (n : Tb) (fn : List DefD) (tf : List He.Defn) (ex : PySem.W.Frag → Bool) (g : Addr → Option Obj) : AlN := (obsD [] fn (kept g (asE n g)), ex (kept g (asE n g)) && tabsB g tf (kept g (asE n g)))
def valN (fn : List DefD) : AlN := (valD fn, true)
theorem says_of {n : Tb} {fn : List DefD} {tf : List He.Defn} {ex : PySem.W.Frag → Bool} {h : Heap} (e : obsN n fn tf ex h.get? = valN fn) : Says fn tf ex h (kept h.get? (asE n h.get?)) := by
  have e1 : obsD [] fn (kept h.get? (asE n h.get?)) = valD fn := congrArg Prod.fst e
  have e2 : (ex (kept h.get? (asE n h.get?)) && tabsB h.get? tf (kept h.get? (asE n h.get?))) = true := congrArg Prod.snd e
  rw [Bool.and_eq_true] at e2
  have key : ∀ p ∈ tf, PySem.W.codeHdIn (kept h.get? (asE n h.get?)) (cT (kept h.get? (asE n h.get?)) p).1 (cT (kept h.get? (asE n h.get?)) p).2 = true ∧ ∃ o, h.get? (cT (kept h.get? (asE n h.get?)) p).2 = some o ∧ emptyTab o = true := fun p hp => by
    have q := List.all_eq_true.mp e2.2 p hp
    rw [Bool.and_eq_true] at q
    refine ⟨q.1, ?_⟩
    have q2 := q.2
    split at q2
    · rename_i o eo
      exact ⟨o, eo, q2⟩
    · cases q2
  refine ⟨e1, e2.1, fun a o q => (kept_mem q).2.1, fun p hp => (key p hp).1, fun p hp => ?_, fun p hp => ?_⟩
  · obtain ⟨_, o, q, z⟩ := key p hp
    cases r : (kept h.get? (asE n h.get?)).lookup (cT (kept h.get? (asE n h.get?)) p).2 with
    | none => rfl
    | some u =>
      obtain ⟨k1, _, k3⟩ := kept_mem r
      rw [q] at k1
      cases k1
      rw [z] at k3
      cases k3
  · obtain ⟨_, o, q, z⟩ := key p hp
    rw [q, emptyTab_eq z]
def hookN (n : Tb) (fn : List DefD) (tf : List He.Defn) (ex : PySem.W.Frag → Bool) : PySem.W.Hook where
  α := AlN
  obs := fun s => obsN n fn tf ex s.heap.get?
  val := fun _ => valN fn
  says := fun _ h => ∃ K : PySem.W.Frag, K.In h ∧ Says fn tf ex h K
  of := fun _ _ e => ⟨_, kept_in, says_of e⟩
  keeps := fun _ _ _ ⟨K, hK, c⟩ k => ⟨K, PySem.W.Frag.In.keeps hK k, ⟨c.d, c.more, c.nol, c.hd, c.out, fun p hp => k _ _ (c.empty p hp)⟩⟩
theorem obsN_eq {n : Tb} {fn : List DefD} {tf : List He.Defn} {ex : PySem.W.Frag → Bool} {g : Addr → Option Obj} {s : Shared} (h : ∀ a, g a = s.heap.get? a) : obsN n fn tf ex g = (hookN n fn tf ex).obs s := by
  have e : g = s.heap.get? := funext h
  rw [e]
  rfl
def nmD : Stmt → Str
  | .FunctionDef n .. => n
  | _ => ""
def ddOf (s : Stmt) : He.DefD := ⟨(nmD s, none), nmD s, nmD s, defArgs s, defBody s, defScope s, [], []⟩
def tbl (K : PySem.W.Frag) (p : Str × Str) : Addr := (He.cT K (p.1, none)).2
/-- tables of different names -/
def tabUL (l : List (Str × Str)) (K : PySem.W.Frag) : Bool := l.all fun p => l.all fun q => decide (tbl K p = tbl K q → p.2 = q.2)
end Ip

set_option Elab.async false
set_option linter.all false
set_option maxRecDepth 100000
set_option maxHeartbeats 0
namespace Law
open PySem PySem.Spec PyProof.Rows L2 Ip
abbrev rw_ := PySem.Challenge.rw_waitless_k96_errors_of_all_parts
abbrev prog := PySem.Challenge.pw_waitless_k96_errors_of_all_parts
def B : Tb := { gs := (["HandError", "BadAnswer", "BadBag", "BadBlocks", "BadCells", "BadChain", "BadChoice", "BadCorner", "BadCount", "BadCourse", "BadCutting", "BadFace", "BadFading", "BadFamily", "BadFull", "BadGuests", "BadHand", "BadHands", "BadHost", "BadInput", "BadKnown", "BadLooks", "BadLoop", "BadMany", "BadMarks", "BadMoment", "BadMost", "BadNumber", "BadOrder", "BadOther"] : List Str) ++ (["BadPair", "BadPaper", "BadPapers", "BadPicks", "BadPlace", "BadPlaces", "BadPlain", "BadPoint", "BadPosition", "BadPush", "BadRenaming", "BadRounds", "BadRow", "BadSaying", "BadSets", "BadSights", "BadSize", "BadSurface", "BadTable", "BadTask", "BadText", "BadTies", "BadTop", "BadValues", "BadView", "BadViews", "BadWay", "BadWeaving", "Crossed", "Enough"] : List Str) ++ (["NoRefutation", "NoTable", "NotClosed", "NotEnough", "NotSlim", "OtherCount", "TooMany", "Undrawn"] : List Str), ft := ([("_law_begun", 1), ("_law_blend", 1), ("_law_take", 2), ("_law_pick", 2), ("_law_kinds", 1), ("_law_plain_errors", 1), ("_law_told_errors", 1), ("_law_any", 1), ("law", 1)] : List (Str × Nat)), ks := [], pl := ([0, 2, 3, 4, 5, 6, 7, 8, 9, 10, 11, 12, 13, 14, 15, 16, 17, 18, 19, 20, 21, 22, 23, 24, 25, 26, 28, 29, 30, 31] : List Nat) ++ ([32, 33, 34, 35, 36, 37, 38, 40, 41, 42, 44, 45, 46, 47, 48, 49, 51, 52, 53, 54, 55, 56, 57, 58, 59, 60, 61, 62, 63, 64] : List Nat) ++ ([65] : List Nat), xi := [(1, "corner"), (27, "corner"), (39, "at"), (43, "hand"), (50, "line"), (66, "most"), (67, "paper")], ct := [], kw := [] }
def ancL : List (List Nat) := ([[0], [1, 0], [2, 0], [3, 0], [4, 0], [5, 0], [6, 0], [7, 0], [8, 0], [9, 0], [10, 0], [11, 0], [12, 0], [13, 0], [14, 0], [15, 0], [16, 0], [17, 0], [18, 0], [19, 0], [20, 0], [21, 0], [22, 0], [23, 0], [24, 0], [25, 0], [26, 0], [27, 0], [28, 0], [29, 0]] : List (List Nat)) ++ ([[30, 0], [31, 0], [32, 0], [33, 0], [34, 0], [35, 0], [36, 0], [37, 0], [38, 0], [39, 0], [40, 0], [41, 0], [42, 0], [43, 0], [44, 0], [45, 0], [46, 0], [47, 0], [48, 0], [49, 0], [50, 0], [51, 0], [52, 0], [53, 0], [54, 0], [55, 0], [56, 0], [57, 0], [58, 0], [59, 0]] : List (List Nat)) ++ ([[60, 0], [61, 0], [62, 0], [63, 0], [64, 0], [65, 0], [66, 0], [67, 0]] : List (List Nat))
def anc (i : Nat) : List Nat := ancL.getD i []
def xi (i : Nat) : Option String := (B.xi.find? fun p => p.1 == i).map (·.2)
def stm (i : Nat) : Stmt := prog.main.body.getD i (.Pass default)
def sts : List Stmt := [stm 70, stm 71, stm 72, stm 73, stm 74, stm 75, stm 76, stm 77, stm 78]
def ll : List (Str × Str) := []
def tf : List He.Defn := ll.map fun p => (p.1, none)
def fn : List He.DefD := sts.map ddOf
def exB (K : PySem.W.Frag) : Bool := factsB prog B anc xi K && tabUL ll K
abbrev R : PySem.W.OpenRow := PySem.W.OpenLaw.row rw_
abbrev hk : PySem.W.Hook := hookN B fn tf exB
def ob (s : PySem.W.SharedT) : AlN := obsN B fn tf exB (HandSHeadRun.getT s)
theorem ob_eq (s : PySem.W.SharedT) : ob s = hk.obs s.abs := obsN_eq (HandSHeadRun.getT_eq s)
def loose : List Str := (["HandError", "BadAnswer", "BadBag", "BadBlocks", "BadCells", "BadChain", "BadChoice", "BadCorner", "BadCount", "BadCourse", "BadCutting", "BadFace", "BadFading", "BadFamily", "BadFull", "BadGuests", "BadHand", "BadHands", "BadHost", "BadInput", "BadKnown", "BadLooks", "BadLoop", "BadMany", "BadMarks", "BadMoment", "BadMost", "BadNumber", "BadOrder", "BadOther"] : List Str) ++ (["BadPair", "BadPaper", "BadPapers", "BadPicks", "BadPlace", "BadPlaces", "BadPlain", "BadPoint", "BadPosition", "BadPush", "BadRenaming", "BadRounds", "BadRow", "BadSaying", "BadSets", "BadSights", "BadSize", "BadSurface", "BadTable", "BadTask", "BadText", "BadTies", "BadTop", "BadValues", "BadView", "BadViews", "BadWay", "BadWeaving", "Crossed", "Enough"] : List Str) ++ (["NoRefutation", "NoTable", "NotClosed", "NotEnough", "NotSlim", "OtherCount", "TooMany", "Undrawn", "_law_begun", "_law_blend", "_law_take", "_law_pick", "_law_kinds", "_law_plain_errors", "_law_told_errors", "_law_any"] : List Str)
theorem run (w : World) : HandSHeadRun.RunEq R (PySem.W.view R.prog [78]) hk ob 20000 loose w := by
  intro os
  kernel_rfl
end Law

set_option Elab.async false
set_option linter.all false
/-! IpEv: small terms and what they come to. -/
namespace Ip

/-! ### what a run gives -/
inductive R (α : Type) where
  | ok (a : α) (h : Hv) | exc (e : D) (h : Hv) | bad
def M (α : Type) := Hv → R α
namespace M
variable {α β γ : Type}
def pure (a : α) : M α := fun h => .ok a h
def bad : M α := fun _ => .bad
def bind (m : M α) (f : α → M β) : M β := fun h => match m h with
  | .ok a h' => f a h'
  | .exc e h' => .exc e h'
  | .bad => .bad
end M
instance : Monad M where
  pure := M.pure
  bind := M.bind
section
variable {α β γ : Type}
@[simp] theorem M.pure_ap (a : α) (h : Hv) : (Pure.pure a : M α) h = .ok a h := rfl
@[simp] theorem M.bad_ap (h : Hv) : (M.bad : M α) h = .bad := rfl
theorem M.bind_ap (m : M α) (f : α → M β) (h : Hv) : (m >>= f) h = match m h with
  | .ok a h' => f a h'
  | .exc e h' => .exc e h'
  | .bad => .bad := rfl
theorem M.bind_ok {m : M α} {f : α → M β} {h h' : Hv} {a : α} (e : m h = .ok a h') : (m >>= f) h = f a h' := by rw [M.bind_ap, e]
theorem M.bind_exc {m : M α} {f : α → M β} {h h' : Hv} {e : D} (q : m h = .exc e h') : (m >>= f) h = .exc e h' := by rw [M.bind_ap, q]
theorem M.bind_bad {m : M α} {f : α → M β} {h : Hv} (q : m h = .bad) : (m >>= f) h = .bad := by rw [M.bind_ap, q]
@[simp] theorem M.pure_bind (a : α) (f : α → M β) : (Pure.pure a >>= f) = f a := rfl
@[simp] theorem M.bind_pure (m : M α) : (m >>= fun a => Pure.pure a) = m := by
  funext h
  rw [M.bind_ap]
  cases m h <;> rfl
@[simp] theorem M.bind_assoc (m : M α) (f : α → M β) (g : β → M γ) : ((m >>= f) >>= g) = m >>= fun a => f a >>= g := by
  funext h
  rw [M.bind_ap, M.bind_ap, M.bind_ap]
  cases m h <;> rfl
@[simp] theorem M.bad_bind (f : α → M β) : ((M.bad : M α) >>= f) = M.bad := rfl
end

/-! ### terms -/
inductive Bop where
  | add | sub | mul | fdiv | mod | pow | bor
  deriving DecidableEq, Inhabited
inductive Cop where
  | eq | ne | lt | le | gt | ge | isin | notin | is_ | isnot
  deriving DecidableEq, Inhabited
/-- the built-in functions -/
inductive Fn where
  | len | abs | int | min | max | sorted | list | tuple | dict | set | sum | any | all | repr | str | range | isinst | ord | reversed | bool | dlist | dsort | dmx
  deriving DecidableEq, Inhabited
/-- what reads data and makes data -/
inductive Pr where
  | bin (o : Bop) | cmp (o : Cop) | neg | item | slice (lo hi : Bool) | tup | lst | dct | fn (f : Fn) | meth (n : Nat) | attr (n : String)
  deriving DecidableEq, Inhabited
/-- how an iterable is walked -/
inductive Ik where
  | plain | raw | range | rngv | enum | zip | items | values | rev
  deriving DecidableEq, Inhabited
/-- targets -/
inductive Pt where
  | var (i : Nat) | pair (a b : Pt) | tri (a b c : Pt)
  deriving DecidableEq, Inhabited
inductive Ex where
  | nil | cons (a r : Ex)
  | cst (d : D) | var (i : Nat)
  | pr (p : Pr) (es : Ex) | slc (a b d : Ex)
  | nt (a : Ex) | and (a b : Ex) | or (a b : Ex) | chn (o p : Cop) (a b c : Ex) | ite (c a b : Ex)
  | call (md : Nat) (f : Nat) (es : Ex)
  | callk (md : Nat) (f : Nat) (n : Nat) (pm : List Nat) (es : Ex)
  | callw (i : Nat) (es : Ex)
  | alp (p : Pr) (es : Ex) | nlst (es : Ex) | ndct (es : Ex)
  | frz (a : Ex)
  | lam (l : Nat) (cs : List Nat)
  | app (a e : Ex) | pop (a : Ex) | popi (a e : Ex) | dget (a b : Ex)
  | lc (al : Bool) (vs : List Nat) (k : Ik) (pt : Pt) (it r : Ex) | dc (vs : List Nat) (k : Ik) (pt : Pt) (it r : Ex)
  | gfor (k : Ik) (vs : List Nat) (pt : Pt) (it r : Ex) | gif (c r : Ex) | yld (e : Ex) | yld2 (a b : Ex)
  | mk (c : Nat) (es : Ex) | mkk (c : Nat) (e : Ex) | cau (q : Nat) (e : Ex) | srt (f : Nat) (e : Ex) | mxk (e : Ex) | upd (a e : Ex)
  deriving Inhabited
inductive Sm where
  | sk | sq (a b : Sm) | asg (i : Nat) (e : Ex) | asgp (p : Pt) (e : Ex) | par (is : List Nat) (es : Ex) | ife (c : Ex) (a b : Sm) | ret (e : Ex) | exp (e : Ex)
  | dset (a k e : Ex) | whl (c : Ex) (b : Sm) | forr (k : Ik) (p : Pt) (it : Ex) (b : Sm) | brk | cnt | rais (e : Ex) | tryw (b : Sm) (c : Nat) (i : Nat) (a : Sm)
  deriving Inhabited

def dats : List W → Option (List D)
  | [] => some []
  | .d x :: r => (dats r).map (x :: ·)
  | _ :: _ => none
/-- what a value reads as -/
def rdW (h : Hv) : W → Option D
  | .d x => some x
  | .ref n => match h[n]? with
    | some (.lst ws) => (dats ws).map D.lst
    | _ => none
  | _ => none
def rdWs (h : Hv) : List W → Option (List D)
  | [] => some []
  | w :: r => match rdW h w with
    | some d => (rdWs h r).map (d :: ·)
    | none => none
def ofO {α : Type} : Option α → M α
  | some a => Pure.pure a
  | none => M.bad
def asD : W → M D
  | .d x => Pure.pure x
  | _ => M.bad
def asB : W → M Bool
  | .d (.bl b) => Pure.pure b
  | _ => M.bad
def asR (ws : List W) : M (List D) := fun h => match rdWs h ws with
  | some ds => .ok ds h
  | none => .bad
end Ip

set_option Elab.async false
set_option linter.all false
set_option maxRecDepth 100000
/-! IpPrim: what the built-in operations do with data, in plain Lean. -/
namespace Ip
open PySem


mutual
def toP : D → PyData
  | .non => .none
  | .bl b => .bool b
  | .int i => .int i
  | .str s => .str (sv s)
  | .tup xs => .tuple (toPL xs)
  | .lst xs => .list (toPL xs)
  | _ => .none
def toPL : List D → List PyData
  | [] => []
  | x :: xs => toP x :: toPL xs
end
mutual
/-- None, dbools, dints, texts, tuples and lists of these -/
def pln : D → Bool
  | .non => true
  | .bl _ => true
  | .int _ => true
  | .str s => s.all (· < 0x110000)
  | .tup xs => plnL xs
  | .lst xs => plnL xs
  | _ => false
def plnL : List D → Bool
  | [] => true
  | x :: xs => pln x && plnL xs
end
mutual
def dep : D → Nat
  | .tup xs => depL xs + 1
  | .lst xs => depL xs + 1
  | _ => 0
def depL : List D → Nat
  | [] => 0
  | x :: xs => max (dep x) (depL xs)
end
theorem toPL_map : ∀ xs : List D, toPL xs = xs.map toP
  | [] => rfl
  | x :: xs => by rw [toPL, toPL_map xs]; rfl
theorem plnL_all : ∀ xs : List D, plnL xs = xs.all pln
  | [] => rfl
  | x :: xs => by rw [plnL, plnL_all xs]; rfl
mutual
theorem toP_lay : ∀ x : D, pln x = true → (toP x).canLay0 = true
  | .non, _ => by simp [toP, PyData.canLay0]
  | .bl _, _ => by simp [toP, PyData.canLay0]
  | .int _, _ => by simp [toP, PyData.canLay0]
  | .str s, h => by
    simp only [toP, PyData.canLay0, PyData.strOk, sv]
    simpa [pln] using h
  | .tup xs, h => by simp only [toP, PyData.canLay0]; exact toPL_lay xs (by simpa [pln] using h)
  | .lst xs, h => by simp only [toP, PyData.canLay0]; exact toPL_lay xs (by simpa [pln] using h)
  | .dct _, h => by simp [pln] at h
  | .rng _ _, h => by simp [pln] at h
  | .glo _, h => by simp [pln] at h
  | .ty _, h => by simp [pln] at h
  | .exc _ _, h => by simp [pln] at h
theorem toPL_lay : ∀ xs : List D, plnL xs = true → PyData.canLayAll0 (toPL xs) = true
  | [], _ => by simp [toPL, PyData.canLayAll0]
  | x :: xs, h => by
    simp only [plnL, Bool.and_eq_true] at h
    simp only [toPL, PyData.canLayAll0, Bool.and_eq_true]
    exact ⟨toP_lay x h.1, toPL_lay xs h.2⟩
end
mutual
theorem toP_dep : ∀ x : D, (toP x).depth = dep x
  | .non => by simp [toP, dep, PyData.depth]
  | .bl _ => by simp [toP, dep, PyData.depth]
  | .int _ => by simp [toP, dep, PyData.depth]
  | .str s => by simp [toP, dep, PyData.depth]
  | .tup xs => by simp only [toP, dep, PyData.depth]; rw [toPL_dep xs]
  | .lst xs => by simp only [toP, dep, PyData.depth]; rw [toPL_dep xs]
  | .dct _ => by simp [toP, dep, PyData.depth]
  | .rng _ _ => by simp [toP, dep, PyData.depth]
  | .glo _ => by simp [toP, dep, PyData.depth]
  | .ty _ => by simp [toP, dep, PyData.depth]
  | .exc _ _ => by simp [toP, dep, PyData.depth]
theorem toPL_dep : ∀ xs : List D, PyData.depthAll (toPL xs) = depL xs
  | [] => by simp [toPL, depL, PyData.depthAll]
  | x :: xs => by simp only [toPL, depL, PyData.depthAll]; rw [toP_dep x, toPL_dep xs]
end
theorem sv_eq {a b : List Nat} : sv a = sv b ↔ a = b := by
  constructor
  · intro h
    have h2 : a.toArray = b.toArray := Str.mk.inj h
    simpa using h2
  · rintro rfl; rfl
theorem sv_beq (a b : List Nat) : (sv a == sv b) = (a == b) := by
  rw [Bool.eq_iff_iff]
  simp [sv_eq]
mutual
theorem toP_eqv : ∀ x y : D, pln x = true → pln y = true → PyData.eqv (toP x) (toP y) = eqv x y
  | .non, y, _, hy => by cases y <;> simp [pln] at hy <;> simp [toP, eqv, PyData.eqv]
  | .bl _, y, _, hy => by cases y <;> simp [pln] at hy <;> simp [toP, eqv, PyData.eqv]
  | .int _, y, _, hy => by cases y <;> simp [pln] at hy <;> simp [toP, eqv, PyData.eqv]
  | .str s, y, _, hy => by cases y <;> simp [pln] at hy <;> simp [toP, eqv, PyData.eqv, sv_beq]
  | .tup xs, y, hx, hy => by
    cases y with
    | tup ys => simp only [toP, eqv, PyData.eqv]; exact toPL_eqv xs ys (by simpa [pln] using hx) (by simpa [pln] using hy)
    | _ => first | (simp [pln] at hy; done) | simp [toP, eqv, PyData.eqv]
  | .lst xs, y, hx, hy => by
    cases y with
    | lst ys => simp only [toP, eqv, PyData.eqv]; exact toPL_eqv xs ys (by simpa [pln] using hx) (by simpa [pln] using hy)
    | _ => first | (simp [pln] at hy; done) | simp [toP, eqv, PyData.eqv]
  | .dct _, _, h, _ => by simp [pln] at h
  | .rng _ _, _, h, _ => by simp [pln] at h
  | .glo _, _, h, _ => by simp [pln] at h
  | .ty _, _, h, _ => by simp [pln] at h
  | .exc _ _, _, h, _ => by simp [pln] at h
theorem toPL_eqv : ∀ xs ys : List D, plnL xs = true → plnL ys = true → PyData.eqvAll (toPL xs) (toPL ys) = eqvL xs ys
  | [], [], _, _ => by simp [toPL, eqvL, PyData.eqvAll]
  | [], _ :: _, _, _ => by simp [toPL, eqvL, PyData.eqvAll]
  | _ :: _, [], _, _ => by simp [toPL, eqvL, PyData.eqvAll]
  | x :: xs, y :: ys, hx, hy => by
    simp only [plnL, Bool.and_eq_true] at hx hy
    simp only [toPL, eqvL, PyData.eqvAll]
    rw [toP_eqv x y hx.1 hy.1, toPL_eqv xs ys hx.2 hy.2]
end
/-- == can be asked -/
def shp (x : D) : Bool := pln x && decide (dep x ≤ 64)
theorem shp_ok {x : D} (h : shp x = true) : pln x = true ∧ SeqAt.shaped (toP x) = true := by
  simp only [shp, Bool.and_eq_true, decide_eq_true_eq] at h
  refine ⟨h.1, ?_⟩
  simp only [SeqAt.shaped, Bool.and_eq_true, decide_eq_true_eq, toP_dep]
  exact ⟨toP_lay x h.1, h.2⟩

/-! ### dicts: keys that are ints or texts -/
def keyK : D → Option L2.Key
  | .int i => some (.inl i)
  | .str s => some (.inr (sv s))
  | _ => none
def getK {α : Type} (kvs : List (D × α)) (k : D) : Option α := (kvs.find? fun p => decide (p.1 = k)).map (·.2)
def setK {α : Type} (kvs : List (D × α)) (k : D) (v : α) : List (D × α) := if kvs.any (fun p => decide (p.1 = k)) then kvs.map (fun p => if p.1 = k then (p.1, v) else p) else kvs ++ [(k, v)]
theorem sv_inj {a b : List Nat} (h : sv a = sv b) : a = b := sv_eq.mp h
theorem keyK_inj {a b : D} {k : L2.Key} (h1 : keyK a = some k) (h2 : keyK b = some k) : a = b := by
  cases a <;> first | (cases h1; done) | skip
  · cases b <;> first | (cases h2; done) | skip
    · cases h1; cases h2; rfl
    · cases h1; cases h2
  · cases b <;> first | (cases h2; done) | skip
    · cases h1; cases h2
    · rename_i x y
      have e1 : Sum.inr (sv x) = k := Option.some.inj h1
      have e2 : Sum.inr (sv y) = k := Option.some.inj h2
      have e3 : (Sum.inr (sv x) : L2.Key) = Sum.inr (sv y) := e1.trans e2.symm
      rw [sv_inj (Sum.inr.inj e3)]

/-! ### order -/
mutual
def alk : D → D → Bool
  | .bl _, .bl _ => true
  | .int _, .int _ => true
  | .str _, .str _ => true
  | .tup xs, .tup ys => alkL xs ys
  | .lst xs, .lst ys => alkL xs ys
  | _, _ => false
def alkL : List D → List D → Bool
  | [], _ => true
  | _ :: _, [] => true
  | x :: xs, y :: ys => alk x y && alkL xs ys
end
mutual
/-- x < y -/
def ltv : D → D → Bool
  | .bl a, .bl b => !a && b
  | .int i, .int j => decide (i < j)
  | .str x, .str y => decide (x < y)
  | .tup xs, .tup ys => ltvL xs ys
  | .lst xs, .lst ys => ltvL xs ys
  | _, _ => false
def ltvL : List D → List D → Bool
  | [], [] => false
  | [], _ :: _ => true
  | _ :: _, [] => false
  | x :: xs, y :: ys => if eqv x y then ltvL xs ys else ltv x y
end
mutual
theorem alk_pln : ∀ x y : D, alk x y = true → PySem.W.alike (toP x) (toP y) = true
  | .bl _, y, h => by cases y <;> simp [alk] at h; simp [toP, W.alike]
  | .int _, y, h => by cases y <;> simp [alk] at h; simp [toP, W.alike]
  | .str _, y, h => by cases y <;> simp [alk] at h; simp [toP, W.alike]
  | .tup xs, y, h => by
    cases y with
    | tup ys => simp only [toP, W.alike]; exact alkL_pln xs ys (by simpa [alk] using h)
    | _ => simp [alk] at h
  | .lst xs, y, h => by
    cases y with
    | lst ys => simp only [toP, W.alike]; exact alkL_pln xs ys (by simpa [alk] using h)
    | _ => simp [alk] at h
  | .non, y, h => by simp [alk] at h
  | .dct _, y, h => by simp [alk] at h
  | .rng _ _, y, h => by simp [alk] at h
  | .glo _, y, h => by simp [alk] at h
  | .ty _, y, h => by simp [alk] at h
  | .exc _ _, y, h => by simp [alk] at h
theorem alkL_pln : ∀ xs ys : List D, alkL xs ys = true → PySem.W.alikeAll (toPL xs) (toPL ys) = true
  | [], ys, _ => by simp [toPL, W.alikeAll]
  | _ :: _, [], _ => by simp [toPL, W.alikeAll]
  | x :: xs, y :: ys, h => by
    simp only [alkL, Bool.and_eq_true] at h
    simp only [toPL, W.alikeAll, Bool.and_eq_true]
    exact ⟨alk_pln x y h.1, alkL_pln xs ys h.2⟩
end
mutual
theorem ltv_ok : ∀ x y : D, pln x = true → pln y = true → alk x y = true → PySem.W.dataLt (toP x) (toP y) = ltv x y
  | .bl a, y, _, _, h => by
    cases y with
    | bl b => cases a <;> cases b <;> simp [toP, ltv, W.dataLt, W.keyToks, PyProof.Rows.lexLt, PyProof.Rows.itemLt]
    | _ => simp [alk] at h
  | .int i, y, _, _, h => by
    cases y <;> simp [alk] at h
    simp [toP, ltv, W.dataLt, W.keyToks, PyProof.Rows.lexLt, PyProof.Rows.itemLt]
  | .str x, y, _, _, h => by
    cases y <;> simp [alk] at h
    simp [toP, ltv, W.dataLt, W.keyToks, PyProof.Rows.lexLt, PyProof.Rows.itemLt, sv, PyProof.Rows.strKind]
  | .tup xs, y, hx, hy, h => by
    cases y with
    | tup ys =>
      simp only [ltv]
      rw [← ltvL_ok xs ys (by simpa [pln] using hx) (by simpa [pln] using hy) (by simpa [alk] using h)]
      simp only [toP, W.dataLt, W.keyToks]
    | _ => simp [alk] at h
  | .lst xs, y, hx, hy, h => by
    cases y with
    | lst ys =>
      simp only [ltv]
      rw [← ltvL_ok xs ys (by simpa [pln] using hx) (by simpa [pln] using hy) (by simpa [alk] using h)]
      simp only [toP, W.dataLt, W.keyToks]
    | _ => simp [alk] at h
  | .non, y, _, _, h => by simp [alk] at h
  | .dct _, y, _, _, h => by simp [alk] at h
  | .rng _ _, y, _, _, h => by simp [alk] at h
  | .glo _, y, _, _, h => by simp [alk] at h
  | .ty _, y, _, _, h => by simp [alk] at h
  | .exc _ _, y, _, _, h => by simp [alk] at h
theorem ltvL_ok : ∀ xs ys : List D, plnL xs = true → plnL ys = true → alkL xs ys = true → PyProof.Rows.lexLt PyProof.Rows.itemOrd (PySem.W.keyToksAll (toPL xs)) (PySem.W.keyToksAll (toPL ys)) = ltvL xs ys
  | [], [], _, _, _ => by simp [toPL, ltvL, W.keyToksAll, PyProof.Rows.lex_irrefl]
  | [], y :: ys, _, _, _ => by
    simp only [toPL, ltvL, W.keyToksAll]
    exact PyProof.Rows.lex_true.mpr (.inl (by simp [PyProof.Rows.itemLt]))
  | x :: xs, [], _, _, _ => by
    simp only [toPL, ltvL, W.keyToksAll]
    exact PyProof.Rows.lex_false.mpr ⟨by simp [PyProof.Rows.itemLt], .inl (by simp [PyProof.Rows.itemLt])⟩
  | x :: xs, y :: ys, hx, hy, h => by
    simp only [alkL, Bool.and_eq_true] at h
    simp only [plnL, Bool.and_eq_true] at hx hy
    simp only [toPL, ltvL]
    rw [W.dataLt_cons (alk_pln x y h.1), toP_eqv x y hx.1 hy.1, ltv_ok x y hx.1 hy.1 h.1, ltvL_ok xs ys hx.2 hy.2 h.2]
end

/-! ### the operations -/
def lim : Nat := 16777216
def dbin : Bop → D → D → Option D
  | .add, .int i, .int j => some (.int (i + j))
  | .add, .str a, .str b => if a.length + b.length ≤ lim then some (.str (a ++ b)) else none
  | .add, .lst a, .lst b => if a.length + b.length ≤ lim then some (.lst (a ++ b)) else none
  | .add, .tup a, .tup b => if a.length + b.length ≤ lim then some (.tup (a ++ b)) else none
  | .sub, .int i, .int j => some (.int (i - j))
  | .mul, .int i, .int j => if (-(2 ^ 64) < i ∧ i < 2 ^ 64) ∨ (-(2 ^ 64) < j ∧ j < 2 ^ 64) then some (.int (i * j)) else none
  | .fdiv, .int i, .int j => if j ≠ 0 ∧ j.natAbs < 1073741824 then some (.int (i.fdiv j)) else none
  | .mod, .int i, .int j => if j ≠ 0 then some (.int (i.fmod j)) else none
  | .pow, .int i, .int j => if 0 ≤ j ∧ j ≤ 1000000 ∧ i.natAbs < 2 ^ 64 then some (.int (i ^ j.toNat)) else none
  | _, _, _ => none
def seqOf : D → Option (List D)
  | .lst xs => some xs
  | .tup xs => some xs
  | _ => none
def eqD (x y : D) : Option Bool := if shp x && shp y then some (eqv x y) else none
def inD (x : D) (xs : List D) : Option Bool := if shp x && xs.all shp then some (xs.any fun y => eqv y x) else none
def cmpOk (x y : D) : Bool := shp x && shp y && alk x y && alk y x
def ltD (x y : D) : Option Bool := if cmpOk x y then some (ltv x y) else none
def dcmp : Cop → D → D → Option Bool
  | .eq, x, y => eqD x y
  | .ne, x, y => (eqD x y).map not
  | .lt, .int i, .int j => some (decide (i < j))
  | .le, .int i, .int j => some (decide (i ≤ j))
  | .gt, .int i, .int j => some (decide (j < i))
  | .ge, .int i, .int j => some (decide (j ≤ i))
  | .lt, x, y => ltD x y
  | .le, x, y => (ltD y x).map not
  | .gt, x, y => ltD y x
  | .ge, x, y => (ltD x y).map not
  | .is_, x, .non => some (decide (x = .non))
  | .isnot, x, .non => some (!decide (x = .non))
  | .isin, x, y => match seqOf y with
    | some xs => inD x xs
    | none => match x, y with
      | .int i, .rng lo hi => some (decide (lo ≤ i ∧ i < hi))
      | k, .dct kvs => if (keyK k).isSome then some (getK kvs k).isSome else none
      | _, _ => none
  | .notin, x, y => match seqOf y with
    | some xs => (inD x xs).map not
    | none => match y with
      | .dct kvs => if (keyK x).isSome then some (!(getK kvs x).isSome) else none
      | _ => none
  | _, _, _ => none
def cutD (xs : List D) (lo hi : Option Int) : List D := (xs.drop (HT.sIx xs.length 0 lo)).take (HT.sIx xs.length xs.length hi - HT.sIx xs.length 0 lo)
def ditem : D → D → Option D
  | .dct kvs, k => if (keyK k).isSome then getK kvs k else none
  | .lst xs, .int i => L2.atI xs i
  | .tup xs, .int i => L2.atI xs i
  | .str s, .int i => if s.length ≤ lim then (L2.atI s i).map fun c => .str [c] else none
  | _, _ => none
def dlen : D → Option Nat
  | .str s => if s.length ≤ lim then some s.length else none
  | .lst xs => some xs.length
  | .tup xs => some xs.length
  | .dct kvs => some kvs.length
  | _ => none
/-- isinstance -/
def tyName : D → Option String
  | .non => some "NoneType"
  | .bl _ => some "bool"
  | .int _ => some "int"
  | .str _ => some "str"
  | .tup _ => some "tuple"
  | .lst _ => some "list"
  | .dct _ => some "dict"
  | _ => none
def tys : List String := ["NoneType", "bool", "int", "str", "tuple", "list", "dict"]
def isExc : D → Bool
  | .exc _ _ => true
  | _ => false
def disi (sub : Nat → Nat → Bool) (x : D) : D → Option Bool
  | .ty n => if tys.contains n then (tyName x).map fun m => m == n || (m == "bool" && n == "int") else if isExc x && decide (n = "ValueError") then some true else none
  | .glo k => match x with
    | .exc c _ => some (sub c k)
    | _ => none
  | _ => none
def dints : List D → Option (List Int)
  | [] => some []
  | .int i :: r => (dints r).map (i :: ·)
  | _ :: _ => none
def dbools : List D → Option (List Bool)
  | [] => some []
  | .bl i :: r => (dbools r).map (i :: ·)
  | _ :: _ => none
def sortD (xs : List D) : List D := xs.mergeSort fun a b => !ltv b a
def neTup : D → Bool
  | .tup (_ :: _) => true
  | _ => false
def noTup : D → Bool
  | .tup _ => false
  | .non => false
  | _ => true
def allAlk (xs : List D) : Bool := xs.all fun x => xs.all fun y => alk x y
def dsorted (xs : List D) : Option (List D) := if xs.all shp && allAlk xs && (xs.all neTup || xs.all noTup) && decide (xs.length ≤ lim) then some (sortD xs) else none
def dmin (xs : List D) : Option D := match dints xs with
  | some (n :: ns) => some (.int (ns.foldl min n))
  | _ => none
def dmax (xs : List D) : Option D := match dints xs with
  | some (n :: ns) => some (.int (ns.foldl max n))
  | _ => none
mutual
/-- what repr can be asked of, as the library reads it -/
def toR : D → PyData
  | .non => .none
  | .bl b => .bool b
  | .int i => .int i
  | .str s => .str (sv s)
  | .tup xs => .tuple (toRL xs)
  | .lst xs => .list (toRL xs)
  | .dct kvs => .dict (toRP kvs)
  | _ => .none
def toRL : List D → List PyData
  | [] => []
  | x :: xs => toR x :: toRL xs
def toRP : List (D × D) → List (PyData × PyData)
  | [] => []
  | (k, x) :: r => (toR k, toR x) :: toRP r
end
mutual
def rok : D → Bool
  | .non => true
  | .bl _ => true
  | .int _ => true
  | .str _ => true
  | .tup xs => rokL xs
  | .lst xs => rokL xs
  | .dct kvs => rokP kvs
  | _ => false
def rokL : List D → Bool
  | [] => true
  | x :: xs => rok x && rokL xs
def rokP : List (D × D) → Bool
  | [] => true
  | (k, x) :: r => (keyK k).isSome && rok x && rokP r
end
/-- repr -/
def drepr (x : D) : Option D := if rok x && (toR x).showable && decide ((toR x).depth ≤ 64) && decide ((toR x).shown.length ≤ lim) then some (.str (toR x).shown.cps.toList) else none
def dvals : D → Option D
  | .dct kvs => some (.lst (kvs.map (·.2)))
  | _ => none
def isPairs : List D → Option (List (D × D))
  | [] => some []
  | .tup [k, v] :: r => (isPairs r).map ((k, v) :: ·)
  | _ :: _ => none
def mergeD (kvs : List (D × D)) : List (D × D) → List (D × D)
  | [] => kvs
  | (k, v) :: r => mergeD (setK kvs k v) r
def allKK (kvs : List (D × D)) : Bool := kvs.all fun p => (keyK p.1).isSome
def ddict (xs : List D) : Option D := match isPairs xs with
  | some ps => if allKK ps && decide (ps.length ≤ lim) then some (.dct (mergeD [] ps)) else none
  | none => none
def dfn (sub : Nat → Nat → Bool) : Fn → List D → Option D
  | .repr, [x] => drepr x
  | .dict, [.lst xs] => ddict xs
  | .dlist, [.dct kvs] => some (.lst (kvs.map (·.1)))
  | .dsort, [.dct kvs] => (match dints (kvs.map (·.1)) with
    | some ns => if kvs.length < 64 then some (.lst ((ns.mergeSort fun a b => decide (a ≤ b)).map D.int)) else none
    | none => none)
  | .dmx, [.dct kvs] => dmax (kvs.map (·.1))
  | .len, [x] => (dlen x).map fun n => .int n
  | .abs, [.int i] => some (.int (if i < 0 then -i else i))
  | .int, [.int i] => some (.int i)
  | .int, [.bl b] => some (.int (b2i b))
  | .min, [.int i, .int j] => some (.int (if j < i then j else i))
  | .max, [.int i, .int j] => some (.int (if j > i then j else i))
  | .min, [.lst xs] => dmin xs
  | .max, [.lst xs] => dmax xs
  | .sum, [.lst xs] => (dints xs).map fun ns => .int ns.sum
  | .any, [.lst xs] => (dbools xs).map fun bs => .bl (bs.any id)
  | .all, [.lst xs] => (dbools xs).map fun bs => .bl (bs.all id)
  | .list, [.lst xs] => some (.lst xs)
  | .list, [.tup xs] => some (.lst xs)
  | .tuple, [.lst xs] => some (.tup xs)
  | .tuple, [.tup xs] => some (.tup xs)
  | .sorted, [.lst xs] => (dsorted xs).map .lst
  | .isinst, [x, t] => (disi sub x t).map .bl
  | .range, [.int j] => some (.rng 0 j)
  | .range, [.int i, .int j] => some (.rng i j)
  | _, _ => none
/-- what an operation makes of data -/
def dprim (sub : Nat → Nat → Bool) : Pr → List D → Option D
  | .bin o, [x, y] => dbin o x y
  | .cmp o, [x, y] => (dcmp o x y).map .bl
  | .neg, [.int i] => some (.int (-i))
  | .item, [x, y] => ditem x y
  | .tup, ds => if ds.length ≤ lim then some (.tup ds) else none
  | .lst, ds => if ds.length ≤ lim then some (.lst ds) else none
  | .slice false false, [.lst xs] => some (.lst (cutD xs none none))
  | .slice true false, [.lst xs, .int i] => some (.lst (cutD xs (some i) none))
  | .slice false true, [.lst xs, .int j] => some (.lst (cutD xs none (some j)))
  | .slice true true, [.lst xs, .int i, .int j] => some (.lst (cutD xs (some i) (some j)))
  | .slice false false, [.tup xs] => some (.tup (cutD xs none none))
  | .slice true false, [.tup xs, .int i] => some (.tup (cutD xs (some i) none))
  | .slice false true, [.tup xs, .int j] => some (.tup (cutD xs none (some j)))
  | .slice true true, [.tup xs, .int i, .int j] => some (.tup (cutD xs (some i) (some j)))
  | .fn f, ds => dfn sub f ds
  | .attr n, [.exc _ fs] => fs.lookup n
  | .meth 0, [d] => dvals d
  | _, _ => none
end Ip

set_option Elab.async false
set_option linter.all false
/-! IpRun: the evaluator. -/
namespace Ip

/-- what the code leans on: calls of own defs (mode, place), the classes' order, how long a while may run -/
structure Cfg where
  call : Nat → Nat → List W → M W
  sub : Nat → Nat → Bool
  fuel : Nat
  /-- the attribute that a class of exceptions keeps -/
  xi : Nat → Option String

/-- what an iterable's arguments read as -/
inductive Snap where
  | ds (xs : List D) | ws (xs : List W)
  deriving DecidableEq
def snap (k : Ik) (ws : List W) (h : Hv) : Option Snap := match k with
  | .raw => match ws with
    | [.ref n] => match h[n]? with
      | some (.lst us) => some (.ws us)
      | _ => none
    | _ => none
  | _ => (rdWs h ws).map .ds
def pairD (x y : D) : D := .tup [x, y]
def rngD (lo hi : Int) : List D := (List.range (hi - lo).toNat).map fun (i : Nat) => .int (lo + (i : Int))
def small62 (i : Int) : Bool := decide (-(2 ^ 62) ≤ i) && decide (i < 2 ^ 62)
/-- what is walked -/
def itD : Ik → List D → Option (List D)
  | .plain, [.lst xs] => some xs
  | .plain, [.tup xs] => some xs
  | .range, [.int j] => if small62 j then some (rngD 0 j) else none
  | .range, [.int i, .int j] => if small62 i && small62 j then some (rngD i j) else none
  | .rngv, [.rng i j] => if small62 i && small62 j then some (rngD i j) else none
  | .enum, [.lst xs] => some (xs.mapIdx fun i x => pairD (.int (i : Nat)) x)
  | .zip, [.lst xs, .lst ys] => some (List.zipWith pairD xs ys)
  | .zip, [.tup xs, .tup ys] => some (List.zipWith pairD xs ys)
  | _, _ => none
def itS (k : Ik) : Snap → Option (List W)
  | .ds xs => (itD k xs).map fun ys => ys.map W.d
  | .ws xs => some xs
def snapM (k : Ik) (ws : List W) : M Snap := fun h => match snap k ws h with
  | some s => .ok s h
  | none => .bad
/-- an exception is not let out here -/
def noX {α : Type} (m : M α) : M α := fun h => match m h with
  | .exc _ _ => .bad
  | r => r
/-- a target takes a value -/
def bindP : Pt → W → List (Option W) → Option (List (Option W))
  | .var i, w, ν => some (ν.set i (some w))
  | .pair a b, .d (.tup [x, y]), ν => (bindP a (.d x) ν).bind (bindP b (.d y))
  | .tri a b c, .d (.tup [x, y, z]), ν => ((bindP a (.d x) ν).bind (bindP b (.d y))).bind (bindP c (.d z))
  | _, _, _ => none
def wipeV (ν : List (Option W)) : List Nat → List (Option W)
  | [] => ν
  | v :: vs => (wipeV ν vs).set v none
def loopM {α : Type} (k : Ik) (ws : List W) (sn : Snap) (f : W → M (List α)) : List W → M (List α)
  | [] => fun h => if snap k ws h = some sn then .ok [] h else .bad
  | x :: xs => fun h => if snap k ws h = some sn then (do
      let ys ← f x
      let zs ← loopM k ws sn f xs
      Pure.pure (ys ++ zs)) h else .bad
/-- the new list -/
def mkL (al : Bool) (ys : List D) : M W := fun h => if ys.length ≤ lim then (if al then .ok (.ref h.length) (h ++ [.lst (ys.map W.d)]) else .ok (.d (.lst ys)) h) else .bad
def mkW (ws : List W) : M W := fun h => if ws.length ≤ lim then .ok (.ref h.length) (h ++ [.lst ws]) else .bad
def datP : List (D × W) → Option (List (D × D))
  | [] => some []
  | (k, .d x) :: r => (datP r).map ((k, x) :: ·)
  | _ :: _ => none
/-- the own list is data from now on -/
def frzW : W → M W
  | .d x => Pure.pure (.d x)
  | .ref n => fun h => match h[n]? with
    | some (.lst ws) => match dats ws with
      | some ds => .ok (.d (.lst ds)) (h.set n .dead)
      | none => .bad
    | some (.dct kvs) => match datP kvs with
      | some ds => .ok (.d (.dct ds)) (h.set n .dead)
      | none => .bad
    | _ => .bad
  | _ => M.bad
def asI (w : W) : M Unit := match w with
  | .d (.int _) => Pure.pure ()
  | _ => M.bad
def chkL (w : W) : M Unit := fun h => match w with
  | .ref n => match h[n]? with
    | some (.lst _) => .ok () h
    | _ => .bad
  | _ => .bad
def appW (w x : W) : M W := fun h => match w with
  | .ref n => match h[n]? with
    | some (.lst ws) => if ws.length < lim then .ok (.d .non) (h.set n (.lst (ws ++ [x]))) else .bad
    | _ => .bad
  | _ => .bad
def popW (w : W) : M W := fun h => match w with
  | .ref n => match h[n]? with
    | some (.lst ws) => match ws.getLast? with
      | some x => .ok x (h.set n (.lst ws.dropLast))
      | none => .bad
    | _ => .bad
  | _ => .bad
def popiW (w : W) (i : W) : M W := fun h => match w, i with
  | .ref n, .d (.int j) => match h[n]? with
    | some (.lst ws) => match L2.ixN ws.length j with
      | some m => match ws[m]? with
        | some x => if -(2 ^ 63) ≤ j ∧ j < 2 ^ 63 then .ok x (h.set n (.lst (ws.eraseIdx m))) else .bad
        | none => .bad
      | none => .bad
    | _ => .bad
  | _, _ => .bad

def dgetW (w k : W) : M W := fun h => match w, k with
  | .ref n, .d kd => match h[n]? with
    | some (.dct kvs) => (if (keyK kd).isSome then (match getK kvs kd with
      | some x => .ok x h
      | none => .bad) else .bad)
    | _ => .bad
  | _, _ => .bad
def dsetW (w k x : W) : M Unit := fun h => match w, k with
  | .ref n, .d kd => match h[n]? with
    | some (.dct kvs) => (if (keyK kd).isSome ∧ kvs.length < lim then .ok () (h.set n (.dct (setK kvs kd x))) else .bad)
    | _ => .bad
  | _, _ => .bad
/-- the pairs of a display -/
def pairsW : List W → Option (List (D × W))
  | [] => some []
  | .d k :: w :: r => if (keyK k).isSome then (pairsW r).map ((k, w) :: ·) else none
  | _ => none
def ndupK : List (D × W) → Bool
  | [] => true
  | p :: r => !(r.any fun q => decide (q.1 = p.1)) && ndupK r
def mkD (ws : List W) : M W := fun h => match pairsW ws with
  | some kvs => if ndupK kvs && decide (kvs.length ≤ 15) then .ok (.ref h.length) (h ++ [.dct kvs]) else .bad
  | none => .bad
/-- a new exception -/
def mkX (c : Cfg) (k : Nat) (ws : List W) : M W := match ws with
  | [w] => (match c.xi k with
    | none => Pure.pure (.d (.exc k []))
    | some f => (match w with
      | .d x => Pure.pure (.d (.exc k [(f, x)]))
      | _ => M.bad))
  | _ => M.bad
/-- exceptions of a class are caught -/
def catM (sub : Nat → Nat → Bool) (q : Nat) (m : M W) : M W := fun h => match m h with
  | .ok _ h' => .ok (.d .non) h'
  | .exc (.exc k fs) h' => if sub k q then .ok (.d (.exc k fs)) h' else .bad
  | _ => .bad
/-- in the parameters' order -/
def permW (pm : List Nat) (ws : List W) : Option (List W) := match pm with
  | [] => some []
  | i :: r => match ws[i]? with
    | some w => (permW r ws).map (w :: ·)
    | none => none
/-- a dict comprehension's pairs -/
def mkDC (kvs : List (D × D)) : M W := fun h => if allKK kvs && decide (kvs.length ≤ lim) then .ok (.d (.dct (mergeD [] kvs))) h else .bad
def updW (w x : W) : M W := fun h => match w, x with
  | .ref n, .d (.dct ps) => match h[n]? with
    | some (.dct kvs) => (if allKK ps ∧ kvs.length + ps.length ≤ lim then .ok (.d .non) (h.set n (.dct (ps.foldl (fun a p => setK a p.1 (.d p.2)) kvs))) else .bad)
    | _ => .bad
  | _, _ => .bad
/-- a display asks data; all else reads own lists, too -/
def strictP : Pr → Bool
  | .tup => true
  | .lst => true
  | .dct => true
  | _ => false
def rdP (p : Pr) (ws : List W) : M (List D) := if strictP p then ofO (dats ws) else asR ws
/-- what is raised -/
def raisC : Ex → Option (Nat × Ex)
  | .mk k (.cons a .nil) => some (k, a)
  | _ => none
/-- a suite that keeps the exception -/
def cauS : Sm → Option (Nat × Nat)
  | .asg j (.var i) => some (j, i)
  | _ => none
section
variable (c : Cfg)
mutual
def ev : Ex → List (Option W) → M W
  | .cst d, _ => Pure.pure (.d d)
  | .var i, ν => match ν[i]? with
    | some (some w) => Pure.pure w
    | _ => M.bad
  | .pr p es, ν => do
    let ws ← evl es ν
    let ds ← rdP p ws
    let z ← ofO (dprim c.sub p ds)
    Pure.pure (.d z)
  | .slc a b d, ν => do
    let x ← ev a ν
    let y ← ev b ν
    let _ ← asI y
    let z ← ev d ν
    let ds ← asR [x, y, z]
    let r ← ofO (dprim c.sub (.slice true true) ds)
    Pure.pure (.d r)
  | .nt a, ν => do
    let x ← ev a ν
    let b ← asB x
    Pure.pure (.d (.bl (!b)))
  | .and a b, ν => do
    let x ← ev a ν
    let k ← asB x
    if k then ev b ν else Pure.pure (.d (.bl false))
  | .or a b, ν => do
    let x ← ev a ν
    let k ← asB x
    if k then Pure.pure (.d (.bl true)) else ev b ν
  | .chn o p a b e, ν => do
    let x ← ev a ν
    let y ← ev b ν
    let ds ← asR [x, y]
    let k ← ofO (dprim c.sub (.cmp o) ds)
    let k ← asB (.d k)
    if k then do
      let z ← ev e ν
      let ds ← asR [y, z]
      let r ← ofO (dprim c.sub (.cmp p) ds)
      Pure.pure (.d r)
    else Pure.pure (.d (.bl false))
  | .ite t a b, ν => do
    let x ← ev t ν
    let k ← asB x
    if k then ev a ν else ev b ν
  | .call md f es, ν => do
    let ws ← evl es ν
    c.call md f ws
  | .alp p es, ν => do
    let ws ← evl es ν
    let ds ← asR ws
    let z ← ofO (dprim c.sub p ds)
    match z with
    | .lst xs => mkL true xs
    | _ => M.bad
  | .nlst es, ν => do
    let ws ← evl es ν
    mkW ws
  | .frz a, ν => do
    let w ← ev a ν
    frzW w
  | .app a e, ν => do
    let w ← ev a ν
    let _ ← chkL w
    let x ← ev e ν
    appW w x
  | .pop a, ν => do
    let w ← ev a ν
    popW w
  | .popi a e, ν => do
    let w ← ev a ν
    let _ ← chkL w
    let i ← ev e ν
    popiW w i
  | .dget a b, ν => do
    let w ← ev a ν
    let k ← ev b ν
    dgetW w k
  | .mk k es, ν => do
    let ws ← evl es ν
    mkX c k ws
  | .mkk k e, ν => do
    let w ← ev e ν
    mkX c k [w]
  | .cau q e, ν => catM c.sub q (ev e ν)
  | .callk md f _ pm es, ν => do
    let ws ← evl es ν
    let us ← ofO (permW pm ws)
    c.call md f us
  | .upd a e, ν => do
    let w ← ev a ν
    let x ← ev e ν
    updW w x
  | .dc vs k pt it r, ν => do
    let ws ← evl it ν
    let sn ← snapM k ws
    let its ← ofO (itS k sn)
    let ys ← loopM k ws sn (fun x => noX (match bindP pt x (wipeV ν vs) with
      | some ν' => evp r ν'
      | none => M.bad)) its
    mkDC ys
  | .ndct es, ν => do
    let ws ← evl es ν
    mkD ws
  | .lc al vs k pt it r, ν => do
    let ws ← evl it ν
    let sn ← snapM k ws
    let its ← ofO (itS k sn)
    let ys ← loopM k ws sn (fun x => noX (match bindP pt x (wipeV ν vs) with
      | some ν' => evg r ν'
      | none => M.bad)) its
    mkL al ys
  | _, _ => M.bad
def evl : Ex → List (Option W) → M (List W)
  | .nil, _ => Pure.pure []
  | .cons a r, ν => do
    let w ← ev a ν
    let ws ← evl r ν
    Pure.pure (w :: ws)
  | _, _ => M.bad
/-- what a comprehension's turn yields -/
def evg : Ex → List (Option W) → M (List D)
  | .yld e, ν => do
    let w ← ev e ν
    match w with
    | .d x => Pure.pure [x]
    | _ => M.bad
  | .gif t r, ν => do
    let x ← ev t ν
    let k ← asB x
    if k then evg r ν else Pure.pure []
  | .gfor k vs pt it r, ν => do
    let ws ← evl it ν
    let sn ← snapM k ws
    let its ← ofO (itS k sn)
    loopM k ws sn (fun x => match bindP pt x (wipeV ν vs) with
      | some ν' => evg r ν'
      | none => M.bad) its
  | _, _ => M.bad
/-- the pairs of a turn -/
def evp : Ex → List (Option W) → M (List (D × D))
  | .yld2 a b, ν => do
    let x ← ev a ν
    let y ← ev b ν
    match x, y with
    | .d k, .d v => Pure.pure [(k, v)]
    | _, _ => M.bad
  | .gif t r, ν => do
    let x ← ev t ν
    let k ← asB x
    if k then evp r ν else Pure.pure []
  | .gfor k vs pt it r, ν => do
    let ws ← evl it ν
    let sn ← snapM k ws
    let its ← ofO (itS k sn)
    loopM k ws sn (fun x => match bindP pt x (wipeV ν vs) with
      | some ν' => evp r ν'
      | none => M.bad) its
  | _, _ => M.bad
end

/-! ### statements -/
inductive O where
  | nx (ν : List (Option W)) (h : Hv) | ret (w : W) (h : Hv) | brk (ν : List (Option W)) (h : Hv) | cnt (ν : List (Option W)) (h : Hv) | exc (e : D) (ν : List (Option W)) (h : Hv) | bad
def O.ofE {α : Type} (ν : List (Option W)) (r : R α) (k : α → Hv → O) : O := match r with
  | .ok w h => k w h
  | .exc e h => .exc e ν h
  | .bad => .bad
def loopS (k : Ik) (ws : List W) (sn : Snap) (f : W → List (Option W) → Hv → O) : List W → List (Option W) → Hv → O
  | [], ν, h => if snap k ws h = some sn then .nx ν h else .bad
  | x :: xs, ν, h => if snap k ws h = some sn then (match f x ν h with
    | .nx ν' h' => loopS k ws sn f xs ν' h'
    | .cnt ν' h' => loopS k ws sn f xs ν' h'
    | .brk ν' h' => .nx ν' h'
    | o => o) else .bad
def loopW (t : List (Option W) → M W) (b : List (Option W) → Hv → O) : Nat → List (Option W) → Hv → O
  | 0, _, _ => .bad
  | n + 1, ν, h => O.ofE ν (t ν h) fun w h' => match w with
    | .d (.bl true) => match b ν h' with
      | .nx ν' h'' => loopW t b n ν' h''
      | .cnt ν' h'' => loopW t b n ν' h''
      | .brk ν' h'' => .nx ν' h''
      | o => o
    | .d (.bl false) => .nx ν h'
    | _ => .bad
/-- several slots take several values -/
def setL : List Nat → List W → List (Option W) → Option (List (Option W))
  | [], [], ν => some ν
  | i :: is, w :: ws, ν => setL is ws (ν.set i (some w))
  | _, _, _ => none
def sx : Sm → List (Option W) → Hv → O
  | .sk, ν, h => .nx ν h
  | .sq a b, ν, h => match sx a ν h with
    | .nx ν' h' => sx b ν' h'
    | o => o
  | .asg i e, ν, h => O.ofE ν (ev c e ν h) fun w h' => .nx (ν.set i (some w)) h'
  | .asgp p e, ν, h => O.ofE ν (ev c e ν h) fun w h' => match bindP p w ν with
    | some ν' => .nx ν' h'
    | none => .bad
  | .par is es, ν, h => O.ofE ν (evl c es ν h) fun ws h' => match setL is ws ν with
    | some ν' => .nx ν' h'
    | none => .bad
  | .ife t a b, ν, h => O.ofE ν (ev c t ν h) fun w h' => match w with
    | .d (.bl true) => sx a ν h'
    | .d (.bl false) => sx b ν h'
    | _ => .bad
  | .ret e, ν, h => O.ofE ν (ev c e ν h) fun w h' => .ret w h'
  | .exp e, ν, h => O.ofE ν (ev c e ν h) fun _ h' => .nx ν h'
  | .brk, ν, h => .brk ν h
  | .cnt, ν, h => .cnt ν h
  | .forr k p it b, ν, h => O.ofE ν ((do
      let ws ← evl c it ν
      let sn ← snapM k ws
      let its ← ofO (itS k sn)
      Pure.pure (ws, sn, its)) h) fun q h' => loopS k q.1 q.2.1 (fun x ν h => match bindP p x ν with
      | some ν' => sx b ν' h
      | none => .bad) q.2.2 ν h'
  | .dset a k e, ν, h => O.ofE ν ((do
      let x ← ev c e ν
      let w ← ev c a ν
      let y ← ev c k ν
      dsetW w y x) h) fun _ h' => .nx ν h'
  | .whl t b, ν, h => loopW (ev c t) (sx b) c.fuel ν h
  | .rais e, ν, h => match raisC e with
    | some (k, a) => O.ofE ν ((do
        let w ← ev c a ν
        mkX c k [w]) h) fun w h' => match w with
      | .d (.exc k fs) => .exc (.exc k fs) ν h'
      | _ => .bad
    | none => .bad
  | .tryw b k i a, ν, h => match sx b ν h with
    | .exc (.exc c0 fs) ν' h' => match cauS a with
      | some (j, i') => if i' = i ∧ i < ν'.length then (if c.sub c0 k then .nx (((ν'.set i (some (.d (.exc c0 fs)))).set j (some (.d (.exc c0 fs)))).set i none) h' else .exc (.exc c0 fs) ν' h') else .bad
      | none => .bad
    | .exc _ _ _ => .bad
    | o => o
end
end Ip

set_option Elab.async false
set_option linter.all false
set_option maxRecDepth 100000
/-! IpRep: how the run's data stand in the layer's heap. -/
namespace Ip
open PySem PySem.Spec PyProof.Rows L2

/-- what is fixed of the program -/
structure Env where
  P : Program
  w : World
  K : PySem.W.Frag
  mg : Str → Option Value
  base : Heap
  /-- the classes by place, the defs by place with the number of their arguments -/
  gs : List Str
  ft : List (Str × Nat)
  /-- the names of plain data, the classes of exceptions without an __init__ of their own -/
  ks : List (Str × D)
  pl : List Nat
  /-- the tables of code objects -/
  T : List (Addr × Str)
  /-- the classes of exceptions with an attribute -/
  xi : List (Nat × String)
  /-- the defs that catch; the calls by keywords -/
  ct : List (Str × Nat)
  kw : List (Nat × List Str × List Nat)


/-- an exception's object at a: its class, its dict -/
def EX (cls : Value) (d : Option Addr) (a : Addr) : HO := .ext fun h => ∃ (oe : Obj) (vs : Array Value), h.get? a = some oe ∧ Zc cls d oe ∧ oe.data = .fields vs
theorem ex_ok {P : Program} {w : World} {H : Hp} {h : Heap} {a : Addr} {cls : Value} {d : Option Addr} {oe : Obj} {vs : Array Value} (e : h.get? a = some oe) (z : Zc cls d oe) (q : oe.data = .fields vs) : ObjOk P w H h a (EX cls d a) :=
  ⟨⟨oe, vs, e, z, q⟩, ⟨oe, e⟩, fun _ _ ⟨o, v, q, r⟩ k => ⟨o, v, k o q, r⟩⟩
/-- an exception without attributes stands at a: caught, or made and not raised -/
def ExAt (G : Hp) (cls : Value) (a : Addr) : Prop := G a = some (EX cls none a) ∨ G a = some (ExO cls a)
theorem ExAt.mono {G G' : Hp} {cls : Value} {a : Addr} (e : Same G G') (h : ExAt G cls a) : ExAt G' cls a := by
  rcases h with h | h
  · exact .inl (e _ _ h)
  · exact .inr (e _ _ h)
mutual
inductive Rep (Γ : Env) (G : Hp) : D → V → Prop
  | non : Rep Γ G .non .non
  | bl (b : Bool) : Rep Γ G (.bl b) (.bl b)
  | int (i : Int) : Rep Γ G (.int i) (.int i)
  | str (s : List Nat) : Rep Γ G (.str s) (.str (sv s))
  | tup {a : Addr} {vs : List V} {xs : List D} : SqT Γ.K G a vs → RepL Γ G xs vs → Rep Γ G (.tup xs) (.ref a)
  | lst {a : Addr} {vs : List V} {xs : List D} : Rd G a (.lst vs) → RepL Γ G xs vs → Rep Γ G (.lst xs) (.ref a)
  | rng {a : Addr} {lo hi : Int} : G a = some (.rng lo hi) → Rep Γ G (.rng lo hi) (.ref a)
  | glo {c : Nat} {x : Str} {a : Addr} : Γ.gs[c]? = some x → Γ.mg x = some (.ref a) → Rep Γ G (.glo c) (.ref a)
  | ty (n : String) : Rep Γ G (.ty n) (.ty n)
  | exc {c : Nat} {x : Str} {C a : Addr} : c ∈ Γ.pl → Γ.gs[c]? = some x → Γ.mg x = some (.ref C) → ExAt G (.ref C) a → Rep Γ G (.exc c []) (.ref a)
  | excF {c : Nat} {x : Str} {C a d : Addr} {f : String} {v : V} {y : D} : (c, f) ∈ Γ.xi → Γ.gs[c]? = some x → Γ.mg x = some (.ref C) → G a = some (EX (.ref C) (some d) a) → G d = some (.xd [((f : Str), v)]) → Rep Γ G y v → Rep Γ G (.exc c [(f, y)]) (.ref a)
  | dctK {a : Addr} {ks : List (Key × V)} {kvs : List (D × D)} : Rd G a (.dK ks) → RepP Γ G kvs ks → Rep Γ G (.dct kvs) (.ref a)
inductive RepP (Γ : Env) (G : Hp) : List (D × D) → List (Key × V) → Prop
  | nil : RepP Γ G [] []
  | cons {k x : D} {key : Key} {v : V} {r : List (D × D)} {rs : List (Key × V)} : keyK k = some key → Rep Γ G x v → RepP Γ G r rs → RepP Γ G ((k, x) :: r) ((key, v) :: rs)
inductive RepL (Γ : Env) (G : Hp) : List D → List V → Prop
  | nil : RepL Γ G [] []
  | cons {x : D} {v : V} {xs : List D} {vs : List V} : Rep Γ G x v → RepL Γ G xs vs → RepL Γ G (x :: xs) (v :: vs)
end

theorem Same.sqT {K : PySem.W.Frag} {H H' : Hp} {a : Addr} {xs : List V} (e : Same H H') (h : SqT K H a xs) : SqT K H' a xs := by
  rcases h with (h | ⟨o, h⟩) | h
  · exact .inl (.inl (e _ _ h))
  · exact .inl (.inr ⟨o, e _ _ h⟩)
  · exact .inr h
theorem Same.rd {H H' : Hp} {a : Addr} {u : HO} (e : Same H H') (h : Rd H a u) : Rd H' a u := by
  rcases h with h | ⟨o, h⟩
  · exact .inl (e _ _ h)
  · exact .inr ⟨o, e _ _ h⟩
mutual
theorem Rep.mono {Γ : Env} {G G' : Hp} (e : Same G G') : ∀ {x : D} {v : V}, Rep Γ G x v → Rep Γ G' x v
  | _, _, .non => .non
  | _, _, .bl b => .bl b
  | _, _, .int i => .int i
  | _, _, .str s => .str s
  | _, _, .tup h r => .tup (Same.sqT e h) (RepL.mono e r)
  | _, _, .lst h r => .lst (Same.rd e h) (RepL.mono e r)
  | _, _, .rng h => .rng (e _ _ h)
  | _, _, .glo h m => .glo h m
  | _, _, .ty n => .ty n
  | _, _, .exc hp h m q => .exc hp h m (ExAt.mono e q)
  | _, _, .excF hp h m q1 q2 r => .excF hp h m (e _ _ q1) (e _ _ q2) (Rep.mono e r)
  | _, _, .dctK h r => .dctK (Same.rd e h) (RepP.mono e r)
theorem RepP.mono {Γ : Env} {G G' : Hp} (e : Same G G') : ∀ {xs : List (D × D)} {vs : List (Key × V)}, RepP Γ G xs vs → RepP Γ G' xs vs
  | _, _, .nil => .nil
  | _, _, .cons h r t => .cons h (Rep.mono e r) (RepP.mono e t)
theorem RepL.mono {Γ : Env} {G G' : Hp} (e : Same G G') : ∀ {xs : List D} {vs : List V}, RepL Γ G xs vs → RepL Γ G' xs vs
  | _, _, .nil => .nil
  | _, _, .cons h r => .cons (Rep.mono e h) (RepL.mono e r)
end
theorem RepL.length {Γ : Env} {G : Hp} : ∀ {xs : List D} {vs : List V}, RepL Γ G xs vs → vs.length = xs.length
  | _, _, .nil => rfl
  | _, _, .cons _ r => by simp [RepL.length r]
theorem RepL.append {Γ : Env} {G : Hp} : ∀ {xs ys : List D} {vs us : List V}, RepL Γ G xs vs → RepL Γ G ys us → RepL Γ G (xs ++ ys) (vs ++ us)
  | _, _, _, _, .nil, s => s
  | _, _, _, _, .cons h r, s => .cons h (RepL.append r s)
theorem RepL.get {Γ : Env} {G : Hp} : ∀ {xs : List D} {vs : List V} {i : Nat} {x : D}, RepL Γ G xs vs → xs[i]? = some x → ∃ v, vs[i]? = some v ∧ Rep Γ G x v
  | _, _, _, _, .nil, e => by simp at e
  | _, _, 0, _, .cons h _, e => by simp at e; subst e; exact ⟨_, rfl, h⟩
  | _, _, i + 1, _, .cons _ r, e => by
    obtain ⟨v, h1, h2⟩ := RepL.get (i := i) r (by simpa using e)
    exact ⟨v, by simpa using h1, h2⟩

/-! ### the run's own heap -/
abbrev Rho := Nat → Option Addr
def RepW (Γ : Env) (G : Hp) (ρ : Rho) : W → V → Prop
  | .d x, v => Rep Γ G x v
  | .ref n, v => ∃ a, ρ n = some a ∧ v = .ref a
  | .clo _ _, _ => False
inductive RepKs (Γ : Env) (G : Hp) (ρ : Rho) : List (D × W) → List (Key × V) → Prop
  | nil : RepKs Γ G ρ [] []
  | cons {k : D} {w : W} {key : Key} {v : V} {r : List (D × W)} {rs : List (Key × V)} : keyK k = some key → RepW Γ G ρ w v → RepKs Γ G ρ r rs → RepKs Γ G ρ ((k, w) :: r) ((key, v) :: rs)
inductive RepWs (Γ : Env) (G : Hp) (ρ : Rho) : List W → List V → Prop
  | nil : RepWs Γ G ρ [] []
  | cons {w : W} {v : V} {ws : List W} {vs : List V} : RepW Γ G ρ w v → RepWs Γ G ρ ws vs → RepWs Γ G ρ (w :: ws) (v :: vs)
theorem RepWs.length {Γ : Env} {G : Hp} {ρ : Rho} : ∀ {ws : List W} {vs : List V}, RepWs Γ G ρ ws vs → vs.length = ws.length
  | _, _, .nil => rfl
  | _, _, .cons _ r => by simp [RepWs.length r]
theorem RepWs.append {Γ : Env} {G : Hp} {ρ : Rho} : ∀ {ws us : List W} {vs xs : List V}, RepWs Γ G ρ ws vs → RepWs Γ G ρ us xs → RepWs Γ G ρ (ws ++ us) (vs ++ xs)
  | _, _, _, _, .nil, s => s
  | _, _, _, _, .cons h r, s => .cons h (RepWs.append r s)
def live (η : Hv) (n : Nat) : Prop := ∃ o, η[n]? = some o ∧ o ≠ .dead
/-- the address is one of the run's own -/
def Own (η : Hv) (ρ : Rho) (a : Addr) : Prop := ∃ n, live η n ∧ ρ n = some a
def RepO (Γ : Env) (G : Hp) (ρ : Rho) (H : Hp) (n : Nat) : VO → Prop
  | .dead => True
  | .lst xs => ∃ a vs, ρ n = some a ∧ G a = none ∧ H a = some (.lst vs) ∧ RepWs Γ G ρ xs vs
  | .dct kvs => ∃ a ks, ρ n = some a ∧ G a = none ∧ H a = some (.dK ks) ∧ RepKs Γ G ρ kvs ks
  | .cel _ => False
structure Sim (Γ : Env) (ρ : Rho) (G : Hp) (η : Hv) (H : Hp) : Prop where
  same : Same G H
  obj : ∀ n o, η[n]? = some o → RepO Γ G ρ H n o
  inj : ∀ n m a, live η n → live η m → ρ n = some a → ρ m = some a → n = m
  new : ∀ n, η.length ≤ n → ρ n = none
  tab : LamX.Tabs Γ.T H
  ntb : ∀ a ps, G a ≠ some (.tbl ps)
def Slots (Γ : Env) (G : Hp) (ρ : Rho) (ν : List (Option W)) (σ : L2.St) : Prop :=
  ν.length = σ.length ∧ ∀ (i : Nat) (w : W), ν[i]? = some (some w) → ∃ v, σ[i]? = some (some v) ∧ RepW Γ G ρ w v

/-- from one state to a later one -/
structure Ext (ρ : Rho) (G : Hp) (η : Hv) (H : Hp) (ρ' : Rho) (G' : Hp) (η' : Hv) (H' : Hp) : Prop where
  rho : ∀ n a, ρ n = some a → ρ' n = some a
  same : Same G G'
  kept : ∀ a o, H a = some o → ¬ Own η ρ a → (∀ ps, o ≠ .tbl ps) → H' a = some o
  tbl : ∀ a ps, H a = some (.tbl ps) → ∃ qs, H' a = some (.tbl qs)
  fresh : ∀ a, G' a ≠ none → G a ≠ none ∨ H a = none ∨ Own η ρ a ∨ ∃ xs, H a = some (.tup xs)
  own : ∀ a, Own η' ρ' a → Own η ρ a ∨ H a = none

theorem RepW.mono {Γ : Env} {G G' : Hp} {ρ ρ' : Rho} (e : Same G G') (er : ∀ n a, ρ n = some a → ρ' n = some a) {w : W} {v : V} (h : RepW Γ G ρ w v) : RepW Γ G' ρ' w v := by
  cases w with
  | d x => exact Rep.mono e h
  | ref n => obtain ⟨a, h1, h2⟩ := h; exact ⟨a, er _ _ h1, h2⟩
  | clo l cs => exact h.elim
theorem RepWs.mono {Γ : Env} {G G' : Hp} {ρ ρ' : Rho} (e : Same G G') (er : ∀ n a, ρ n = some a → ρ' n = some a) : ∀ {ws : List W} {vs : List V}, RepWs Γ G ρ ws vs → RepWs Γ G' ρ' ws vs
  | _, _, .nil => .nil
  | _, _, .cons h r => .cons (h.mono e er) (RepWs.mono e er r)
theorem RepKs.mono {Γ : Env} {G G' : Hp} {ρ ρ' : Rho} (e : Same G G') (er : ∀ n a, ρ n = some a → ρ' n = some a) : ∀ {ws : List (D × W)} {vs : List (Key × V)}, RepKs Γ G ρ ws vs → RepKs Γ G' ρ' ws vs
  | _, _, .nil => .nil
  | _, _, .cons hk h r => .cons hk (h.mono e er) (RepKs.mono e er r)
theorem Slots.mono {Γ : Env} {G G' : Hp} {ρ ρ' : Rho} {ν : List (Option W)} {σ : L2.St} (e : Same G G') (er : ∀ n a, ρ n = some a → ρ' n = some a) (h : Slots Γ G ρ ν σ) : Slots Γ G' ρ' ν σ :=
  ⟨h.1, fun i w hi => let ⟨v, h1, h2⟩ := h.2 i w hi; ⟨v, h1, h2.mono e er⟩⟩
theorem Ext.refl (ρ : Rho) (G : Hp) (η : Hv) (H : Hp) : Ext ρ G η H ρ G η H := ⟨fun _ _ h => h, Same.refl G, fun _ _ h _ _ => h, fun _ ps h => ⟨ps, h⟩, fun _ h => .inl h, fun _ h => .inl h⟩
theorem Ext.trans {ρ ρ1 ρ2 : Rho} {G G1 G2 : Hp} {η η1 η2 : Hv} {H H1 H2 : Hp} (a : Ext ρ G η H ρ1 G1 η1 H1) (b : Ext ρ1 G1 η1 H1 ρ2 G2 η2 H2) : Ext ρ G η H ρ2 G2 η2 H2 := by
  have back : ∀ x, H1 x = none → H x = none ∨ Own η ρ x := fun x h => by
    by_cases ho : Own η ρ x
    · exact .inr ho
    · refine .inl ?_
      cases e : H x with
      | none => rfl
      | some o =>
        by_cases ht : ∃ ps, o = .tbl ps
        · obtain ⟨ps, rfl⟩ := ht
          obtain ⟨qs, q⟩ := a.tbl x ps e
          rw [h] at q; cases q
        · have q := a.kept x o e ho fun ps z => ht ⟨ps, z⟩
          rw [h] at q; cases q
  refine ⟨fun n x h => b.rho n x (a.rho n x h), a.same.trans b.same, fun x o h no nt => ?_, fun x ps h => ?_, fun x h => ?_, fun x h => ?_⟩
  · refine b.kept x o (a.kept x o h no nt) (fun ho => ?_) nt
    rcases a.own x ho with q | q
    · exact no q
    · rw [q] at h; cases h
  · obtain ⟨qs, q⟩ := a.tbl x ps h
    exact b.tbl x qs q
  · rcases b.fresh x h with q | q | q | q
    · exact a.fresh x q
    · exact (back x q).elim (fun z => .inr (.inl z)) fun z => .inr (.inr (.inl z))
    · exact (a.own x q).elim (fun z => .inr (.inr (.inl z))) fun z => .inr (.inl z)
    · obtain ⟨xs, q⟩ := q
      cases e : H x with
      | none => exact .inr (.inl rfl)
      | some o =>
        by_cases ho : Own η ρ x
        · exact .inr (.inr (.inl ho))
        · by_cases ht : ∃ ps, o = .tbl ps
          · obtain ⟨ps, rfl⟩ := ht
            obtain ⟨qs, z⟩ := a.tbl x ps e
            rw [q] at z; cases z
          · have z := a.kept x o e ho fun ps z => ht ⟨ps, z⟩
            rw [q] at z; cases z
            exact .inr (.inr (.inr ⟨xs, rfl⟩))
  · rcases b.own x h with q | q
    · exact a.own x q
    · exact (back x q).elim .inr .inl

/-! ### what is new joins the frozen part -/
def flt : Option HO → Option HO
  | some (.tbl _) => none
  | o => o
theorem flt_some {o : HO} (h : ∀ ps, o ≠ .tbl ps) : flt (some o) = some o := by
  cases o <;> first | rfl | exact absurd rfl (h _)
theorem flt_of {x : Option HO} {o : HO} (h : flt x = some o) : x = some o ∧ ∀ ps, o ≠ .tbl ps := by
  cases x with
  | none => cases h
  | some u =>
    cases u <;> first | (have h : some _ = some o := h; cases h; exact ⟨rfl, fun ps z => by cases z⟩) | (have h : (none : Option HO) = some o := h; cases h)
def isTupO : HO → Bool
  | .tup _ => true
  | _ => false
/-- what is new, and all tuples -/
def grow (G H H' : Hp) : Hp := fun a => match H a with
  | none => flt (H' a)
  | some o => if isTupO o then some o else G a
theorem grow_new {G H H' : Hp} {a : Addr} (h : H a = none) : grow G H H' a = flt (H' a) := by unfold grow; rw [h]
theorem grow_up {G H : Hp} {a : Addr} {o : HO} (h : H a = none) (n : ∀ ps, o ≠ .tbl ps := by exact fun _ z => by cases z) : grow G H (upd H a o) a = some o := by
  rw [grow_new h, upd_same]; exact flt_some n
theorem grow_old {G H H' : Hp} {a : Addr} {o : HO} (h : H a = some o) (n : isTupO o = false := by rfl) : grow G H H' a = G a := by
  unfold grow; rw [h]; simp [n]
theorem grow_tup {G H H' : Hp} {a : Addr} {xs : List V} (h : H a = some (.tup xs)) : grow G H H' a = some (.tup xs) := by
  unfold grow; rw [h]; rfl
theorem isTup_of {o : HO} (h : isTupO o = true) : ∃ xs, o = .tup xs := by
  cases o <;> first | exact ⟨_, rfl⟩ | cases h
theorem grow_same {G H H' : Hp} (e : Same G H) : Same G (grow G H H') := fun a o h => by
  have q := e a o h
  cases ht : isTupO o with
  | true =>
    obtain ⟨xs, rfl⟩ := isTup_of ht
    exact grow_tup q
  | false => rw [grow_old q ht]; exact h
theorem grow_le {G H H' : Hp} (e : Same G H) (e' : Same H H') : Same (grow G H H') H' := fun a o h => by
  cases q : H a with
  | none => rw [grow_new q] at h; exact (flt_of h).1
  | some u =>
    cases ht : isTupO u with
    | true =>
      obtain ⟨xs, rfl⟩ := isTup_of ht
      rw [grow_tup q] at h
      cases h
      exact e' _ _ q
    | false => rw [grow_old q ht] at h; exact e' a o (e a o h)
theorem RepO.grow {Γ : Env} {G H H' : Hp} {ρ : Rho} (e : Same G H) (e' : Same H H') {n : Nat} {o : VO} (h : RepO Γ G ρ H n o) : RepO Γ (grow G H H') ρ H' n o := by
  cases o with
  | dead => trivial
  | lst xs =>
    obtain ⟨a, vs, h1, h2, h3, h4⟩ := h
    exact ⟨a, vs, h1, by rw [grow_old h3]; exact h2, e' _ _ h3, h4.mono (grow_same e) (fun _ _ q => q)⟩
  | dct _ =>
    obtain ⟨a, vs, h1, h2, h3, h4⟩ := h
    exact ⟨a, vs, h1, by rw [grow_old h3]; exact h2, e' _ _ h3, h4.mono (grow_same e) (fun _ _ q => q)⟩
  | cel _ => exact h
theorem tab_at {T : List (Addr × Str)} {H : Hp} (t : LamX.Tabs T H) {p : Addr × Str} (hp : p ∈ T) : ∃ ps, H p.1 = some (.tbl ps) := by
  obtain ⟨ps, h, _⟩ := t p hp
  exact ⟨ps, h⟩
theorem tab_same {T : List (Addr × Str)} {H H' : Hp} (t : LamX.Tabs T H) (e : Same H H') : LamX.Tabs T H' := t.ext e
/-- what may be written -/
def Cont : HO → Prop
  | .lst _ => True
  | .dK _ => True
  | .dT _ => True
  | .set _ _ => True
  | .ins _ _ _ => True
  | _ => False
/-- a heap that differs only where such a thing stood, or nothing -/
theorem tab_move {T : List (Addr × Str)} {H H' : Hp} (t : LamX.Tabs T H) (e : ∀ b o, H b = some o → ¬ Cont o → H' b = some o) : LamX.Tabs T H' := fun p hp => by
  obtain ⟨ps, h1, h2, h3⟩ := t p hp
  refine ⟨ps, e _ _ h1 (fun z => z), h2, fun pos cv hc => ?_⟩
  obtain ⟨c, e1, e2⟩ := h3 pos cv hc
  exact ⟨c, e1, e _ _ e2 (fun z => z)⟩
theorem Sim.grow {Γ : Env} {G H H' : Hp} {ρ : Rho} {η : Hv} (S : Sim Γ ρ G η H) (e : Same H H') : Sim Γ ρ (grow G H H') η H' :=
  ⟨grow_le S.same e, fun n o h => (S.obj n o h).grow S.same e, S.inj, S.new, tab_same S.tab e, fun a ps h => by
    cases q : H a with
    | none => rw [grow_new q] at h; exact (flt_of h).2 ps rfl
    | some u =>
      cases ht : isTupO u with
      | true =>
        obtain ⟨xs, rfl⟩ := isTup_of ht
        rw [grow_tup q] at h
        cases h
      | false => rw [grow_old q ht] at h; exact S.ntb a ps h⟩
theorem Ext.grow {Γ : Env} {G H H' : Hp} {ρ : Rho} {η : Hv} (S : Sim Γ ρ G η H) (e : Same H H') : Ext ρ G η H ρ (Ip.grow G H H') η H' :=
  ⟨fun _ _ h => h, grow_same S.same, fun a o h _ _ => e a o h, fun a ps h => ⟨ps, e a _ h⟩, fun a h => by
    cases q : H a with
    | none => exact .inr (.inl rfl)
    | some u =>
      cases ht : isTupO u with
      | true =>
        obtain ⟨xs, rfl⟩ := isTup_of ht
        exact .inr (.inr (.inr ⟨xs, rfl⟩))
      | false => rw [grow_old q ht] at h; exact .inl h, fun _ h => .inl h⟩
theorem same_upd {H : Hp} {a : Addr} {o : HO} (h : H a = none) : Same H (upd H a o) := fun b u q => by rw [upd_ne (ne_of_none q h)]; exact q

/-! ### what is read -/
/-- data that a value reads as: frozen, or a list of the run's own -/
inductive RepA (Γ : Env) (G H : Hp) : D → V → Prop
  | fix {x : D} {v : V} : Rep Γ G x v → RepA Γ G H x v
  | lst {xs : List D} {a : Addr} {vs : List V} : H a = some (.lst vs) → RepL Γ G xs vs → RepA Γ G H (.lst xs) (.ref a)
inductive RepAs (Γ : Env) (G H : Hp) : List D → List V → Prop
  | nil : RepAs Γ G H [] []
  | cons {x : D} {v : V} {xs : List D} {vs : List V} : RepA Γ G H x v → RepAs Γ G H xs vs → RepAs Γ G H (x :: xs) (v :: vs)
theorem RepL.of_ws {Γ : Env} {G : Hp} {ρ : Rho} : ∀ {ws : List W} {vs : List V} {ds : List D}, RepWs Γ G ρ ws vs → dats ws = some ds → RepL Γ G ds vs
  | _, _, _, .nil, e => by cases e; exact .nil
  | .d x :: ws, _, ds, .cons h r, e => by
    unfold dats at e
    cases q : dats ws with
    | none => rw [q] at e; cases e
    | some xs =>
      rw [q] at e
      cases e
      exact .cons h (RepL.of_ws r q)
  | .ref _ :: _, _, _, .cons _ _, e => by cases e
  | .clo _ _ :: _, _, _, .cons _ _, e => by cases e
theorem RepW.read {Γ : Env} {G H : Hp} {ρ : Rho} {η : Hv} (S : Sim Γ ρ G η H) {w : W} {v : V} {d : D} (r : RepW Γ G ρ w v) (e : rdW η w = some d) : RepA Γ G H d v := by
  cases w with
  | d x => cases e; exact .fix r
  | ref n =>
    simp only [rdW] at e
    cases q : η[n]? with
    | none => rw [q] at e; cases e
    | some o =>
      rw [q] at e
      have so := S.obj n o q
      cases o with
      | lst ws =>
        cases q2 : dats ws with
        | none => simp only [q2] at e; cases e
        | some ds =>
          simp only [q2] at e
          cases e
          obtain ⟨a, vs, h1, h2, h3, h4⟩ := so
          obtain ⟨b, h5, rfl⟩ := r
          rw [h1] at h5
          cases h5
          exact .lst h3 (RepL.of_ws h4 q2)
      | dead => cases e
      | dct _ => cases e
      | cel _ => cases e
  | clo _ _ => cases e
theorem RepWs.read {Γ : Env} {G H : Hp} {ρ : Rho} {η : Hv} (S : Sim Γ ρ G η H) : ∀ {ws : List W} {vs : List V} {ds : List D}, RepWs Γ G ρ ws vs → rdWs η ws = some ds → RepAs Γ G H ds vs
  | _, _, _, .nil, e => by cases e; exact .nil
  | w :: ws, _, ds, .cons h r, e => by
    unfold rdWs at e
    cases q : rdW η w with
    | none => rw [q] at e; cases e
    | some d =>
      rw [q] at e
      simp only at e
      cases q2 : rdWs η ws with
      | none => rw [q2] at e; cases e
      | some xs =>
        rw [q2] at e
        cases e
        exact .cons (h.read S q) (RepWs.read S r q2)
section
variable {Γ : Env} {G H : Hp} {v : V}
theorem RepA.non (h : RepA Γ G H .non v) : v = .non := by cases h with | fix h => cases h; rfl
theorem RepA.bl {b : Bool} (h : RepA Γ G H (.bl b) v) : v = .bl b := by cases h with | fix h => cases h; rfl
theorem RepA.int {i : Int} (h : RepA Γ G H (.int i) v) : v = .int i := by cases h with | fix h => cases h; rfl
theorem RepA.str {x : List Nat} (h : RepA Γ G H (.str x) v) : v = .str (sv x) := by cases h with | fix h => cases h; rfl
theorem RepA.ty {n : String} (h : RepA Γ G H (.ty n) v) : v = .ty n := by cases h with | fix h => cases h; rfl
theorem RepA.tup {xs : List D} (h : RepA Γ G H (.tup xs) v) : ∃ a vs, v = .ref a ∧ SqT Γ.K G a vs ∧ RepL Γ G xs vs := by
  cases h with
  | fix h => cases h with | tup h r => exact ⟨_, _, rfl, h, r⟩
theorem RepA.isLst {xs : List D} (S : Same G H) (h : RepA Γ G H (.lst xs) v) : ∃ a vs, v = .ref a ∧ Rd H a (.lst vs) ∧ RepL Γ G xs vs := by
  cases h with
  | fix h => cases h with | lst h r => exact ⟨_, _, rfl, Same.rd S h, r⟩
  | lst h r => exact ⟨_, _, rfl, .inl h, r⟩
theorem RepP.length {Γ : Env} {G : Hp} : ∀ {xs : List (D × D)} {vs : List (Key × V)}, RepP Γ G xs vs → vs.length = xs.length
  | _, _, .nil => rfl
  | _, _, .cons _ _ r => by simp [RepP.length r]
theorem RepA.isDct {kvs : List (D × D)} (S : Same G H) (h : RepA Γ G H (.dct kvs) v) : ∃ a ks, v = .ref a ∧ Rd H a (.dK ks) ∧ RepP Γ G kvs ks := by
  cases h with
  | fix h => cases h with | dctK h r => exact ⟨_, _, rfl, Same.rd S h, r⟩
theorem RepA.isRng {lo hi : Int} (h : RepA Γ G H (.rng lo hi) v) : ∃ a, v = .ref a ∧ G a = some (.rng lo hi) := by
  cases h with
  | fix h => cases h with | rng h => exact ⟨_, rfl, h⟩
theorem RepL.all {Γ : Env} {G : Hp} {p : D → Bool} : ∀ {xs : List D} {vs : List V}, RepL Γ G xs vs → xs.all p = true → ∀ v ∈ vs, ∃ x, p x = true ∧ Rep Γ G x v
  | _, _, .nil, _ => fun v h => by cases h
  | x :: xs, _, .cons h r, e => fun v hv => by
    simp only [List.all_cons, Bool.and_eq_true] at e
    rcases List.mem_cons.mp hv with rfl | hv
    · exact ⟨x, e.1, h⟩
    · exact RepL.all r e.2 v hv
end
end Ip

set_option Elab.async false
set_option linter.all false
set_option maxRecDepth 100000
set_option maxHeartbeats 2000000
/-! IpTry: an exception that is caught is an object like others. -/
namespace Ip
open PySem PySem.Spec PyProof.Rows L2

/-- the context of a suite -/
abbrev suiteX (X : Cx) (a : Addr) (pn : List (Addr × Obj)) : Cx := { X with A := X.A.mark (some (.ref a)), calm := false, pn := pn, xe := fun _ _ => False }
/-- what the clause wishes: the object is tracked from the suite's begin on -/
def wAsT (K : PySem.W.Frag) (c : Value) (i : Nat) (ts : TS) (Wout : WX) (D : Ends) : WX := fun cls d σ H =>
  ∃ b, PySem.W.exmOne K cls c = some b ∧ (b = true → ∀ a, H a = none → ts { nx := fun σ' H' => D.nx (σ'.set i none) H', rt := D.rt, bk := fun σ' H' => D.bk (σ'.set i none) H', ct := fun σ' H' => D.ct (σ'.set i none) H' } (σ.set i (some (.ref a))) (upd H a (EX cls d a))) ∧
    (b = false → Wout cls d σ H)
section
variable {X : Cx} {pins : List (Addr × Obj)} {σ : L2.St} {H : Hp} {s : Shared}
theorem inv_suite (I : Inv X pins σ H s) (a : Addr) : Inv (suiteX X a (X.pn ++ pins)) [] σ H s :=
  ⟨⟨I.ok.mod, I.ok.kind, I.ok.glob, I.ok.blt, I.ok.above, I.ok.inj, I.ok.has, I.ok.cab, (fun z => absurd (show false = true from z) Bool.false_ne_true), I.ok.frames, I.ok.stk, I.ok.exf, I.ok.bs, I.ok.bsz, I.ok.noex, I.ok.exfs, I.ok.funs, I.ok.frf⟩,
    I.os, I.bare, I.base, I.loc, I.cell, I.free, I.freeC, fun p hp => I.pin p (by rw [List.append_nil] at hp; exact hp), I.hok, I.len⟩
theorem inv_unsuite {pn' : List (Addr × Obj)} {a : Addr} (I : Inv (suiteX X a (X.pn ++ pins)) pn' σ H s) (ok : X.Ok) : Inv X pins σ H s :=
  ⟨ok, I.os, I.bare, I.base, I.loc, I.cell, I.free, I.freeC, fun p hp => I.pin p (List.mem_append_left _ hp), I.hok, I.len⟩
/-- on the ground, and the exception's object tracked -/
theorem inv_land {B : Heap} {sI s' : Shared} {a : Addr} {cls : Value} {d : Option Addr} {oe : Obj} {vs : Array Value} (I : Inv X pins σ H sI) (nb : ∀ b o, sI.heap.get? b = some o → b ∉ frs X.stack → B.get? b = some o) (st : B.StaysIn s'.heap)
    (up : sI.heap.UpToSlots s'.heap) (os : s'.os = sI.os) (ag : AllBare s'.gens) (nB : B.get? a = none) (nF : a ∉ frs X.stack) (na : H a = none) (he : s'.heap.get? a = some oe) (hz : Zc cls d oe) (hd : oe.data = .fields vs) :
    Inv X pins σ (upd H a (EX cls d a)) s' := by
  have nI : sI.heap.get? a = none := by
    cases q : sI.heap.get? a with
    | none => rfl
    | some o => rw [nb a o q nF] at nB; cases nB
  obtain ⟨G, g1, g2⟩ := restrict s'.heap fun b => decide (b ≠ a)
  have ga : G.get? a = none := g2 a (decide_eq_false fun z => z rfl)
  have gk : ∀ b, b ≠ a → G.get? b = s'.heap.get? b := fun b hb => g1 b (decide_eq_true hb)
  have gs : ∀ b o, G.get? b = some o → s'.heap.get? b = some o := fun b o e => by
    by_cases hb : b = a
    · rw [hb, ga] at e; cases e
    · rw [← gk b hb]; exact e
  have stG : B.StaysIn G := fun b o e => by
    have hb : b ≠ a := fun z => by rw [z, nB] at e; cases e
    rw [gk b hb]; exact st b o e
  have upG : sI.heap.UpToSlots G := fun b o e hdd => by
    have hb : b ≠ a := fun z => by rw [z, nI] at e; cases e
    obtain ⟨sl, q⟩ := up b o e hdd
    exact ⟨sl, by rw [gk b hb]; exact q⟩
  have J : Inv X pins σ H { s' with heap := G } := I.landed (s' := { s' with heap := G }) nb stG upG os ag
  have L := J.laidN (h' := s'.heap) (a := a) (o := EX cls d a) (t' := s'.toks) gs ga na (ex_ok he hz hd)
  exact L
end
section
variable {X : Cx} {x n : Str} {c : Value} {i : Nat} {body suite : List Stmt} {b₀ : Stmt} {np pos pos' : Pos} {tb : WX → TS} {ts : TS} {Wout : WX}
theorem ps_try_own (hs : X.stack = X.env :: X.outer) (hf : X.env.frame = some X.env.locals) (hN : X.N.Nodup) (hi : X.N[i]? = some n) (hln : X.env.kindOf n = some .local) (hc : Names X x c) (tk : Takes X Wout)
    (hb : ∀ (W : WX) (pn : List (Addr × Obj)) (xe : Value → Shared → Prop), Takes (X.tr pn xe) W → PassesOwn (model X.prog X.w) X.A X.env xe → PSs (X.tr pn xe) body (tb W))
    (hsu : ∀ (a : Addr) (pn : List (Addr × Obj)), PSs (suiteX X a pn) (b₀ :: suite) ts) :
    PS X (.Try body [.ExceptHandler (some (.Name x np)) (some n) (b₀ :: suite) pos'] [] [] pos) (fun D σ H => tb (wAsT X.K c i ts Wout D) D σ H) := by
  refine ⟨fun pins s σ H D I h => ?_⟩
  have ok := I.ok
  have frm : X.A.frames = some (X.env :: X.outer) := by rw [ok.frames, hs]
  have isL : Loc X.env.scope n := .inl hln
  refine wpAny_Try_except ?_
  refine wpAny_mono ((hb (wAsT X.K c i ts Wout D) (X.pn ++ pins) (fun e s₁ => wpAny (model X.prog X.w) X.A (noteFrame e X.env) (fun _ s₂ => wpAny (model X.prog X.w) X.A (setFlight e none) (fun _ s₃ =>
    wpAny (model X.prog X.w) X.A (handleBy e X.env [.ExceptHandler (some (.Name x np)) (some n) (b₀ :: suite) pos']) (SP X pins D) X.xe s₃) X.xe s₂) X.xe s₁) (fun u s' air => ?_) PassesOwn.looking).run [] s σ H D (I.toTry _) h) (fun f s1 got => ?_) (fun e s1 he => he)
  · obtain ⟨a, Gr, sK, pins', σ', H', cl, d, rfl, Iv', old, up, sky, na, osE, bare, b, hb1, onY, onN⟩ := air
    have Iv : Inv X pins σ' H' sK := Iv'.ofTry ok
    have aloft : Sky Gr (X.env :: X.outer) a (Zc cl d) X.env.locals s'.heap := by rw [← hs]; exact sky
    show wpAny (model X.prog X.w) X.A (noteFrame (.ref a) X.env) _ _ _
    refine Sky.land Zc.steady frm hf aloft fun p3 fly3 g3 => ?_
    have Iv3 : Inv X pins σ' H' { s' with heap := p3 } := Iv.landed old fly3.1 (up.trans g3) osE bare
    obtain ⟨ob3, us3, at3, zc3, dt3⟩ := fly3.there
    have offF : ∀ {h : Heap} {o : Obj} {vs : Array Value}, h.FunFrames Gr (X.env :: X.outer) → h.get? a = some o → o.data = .fields vs → a ∉ frs (X.env :: X.outer) := fun {h o vs} ff e dd hm => by
      obtain ⟨_, o', e', hnf⟩ := ff.mem hm
      rw [e] at e'; cases e'
      exact hnf _ dd
    have offN := offF fly3.2.2.1 at3 dt3
    have dL : a ≠ X.env.locals := fun z => offN (List.mem_filterMap.mpr ⟨X.env, List.mem_cons_self, by rw [hf, z]⟩)
    have dF : a ∉ X.fs := fun hm => by
      obtain ⟨e, he, q⟩ := List.mem_filterMap.mp hm
      exact offN (List.mem_filterMap.mpr ⟨e, List.mem_cons_of_mem _ he, q⟩)
    have Su3 := Iv3.suite at3 dt3 na dL dF
    refine wpAny_handleBy_cons (codeAny_handlers_test ?_) (by intro q; cases q)
    have tyA : PySem.W.Looks (model X.prog X.w) p3 (typeOf (.ref a)) cl := fun A Q E s k q => wpAny_typeOf_ref (k _ _ at3) (by rw [zc3.1]; exact q)
    have mtc := PySem.W.exm_one (M := model X.prog X.w) (Iv3.kIn) tyA hb1
    have tst : ∀ {Q : Value → Shared → Prop} {E : Value → Shared → Prop}, Q c { s' with heap := p3 } → wpAny (model X.prog X.w) (X.A.mark (some (.ref a))) (eval (.Name x np) X.env) Q E { s' with heap := p3 } := fun {Q E} q => by
      obtain ⟨hg, hdbg, hm | ⟨hm, hv, hnn⟩⟩ := hc
      · exact ld_glob (X := X.suite a ((a, ob3) :: (X.pn ++ pins))) Su3 hg hm q hdbg
      · exact ld_blt (X := X.suite a ((a, ob3) :: (X.pn ++ pins))) Su3 hg hm hv q hnn hdbg
    refine tst (mtc.here ?_)
    cases b with
    | true =>
      refine codeAny_handlers_suite_as ?_
      refine HandSPX.lands_againZ fly3 fun p4 fly4 g4 => ?_
      obtain ⟨ob4, us4, at4, zc4, dt4⟩ := fly4.there
      have Iv4 : Inv X pins σ' (upd H' a (EX cl d a)) { s' with heap := p4 } := inv_land (s' := { s' with heap := p4 }) Iv old fly4.1 ((up.trans g3).trans g4) osE bare fly4.2.1 (by rw [hs]; exact offN) na at4 zc4 dt4
      have Su4 := inv_suite Iv4 a
      refine store_ok (X := suiteX X a (X.pn ++ pins)) (v := .ref a) Su4 hN hi isL rfl (fun sv5 Su5 => ?_) (.inr hln)
      refine wpAny_mono ((hsu a (X.pn ++ pins)).run [] sv5 _ _ _ Su5 (onY rfl a na)) (fun f sz got => ?_) (fun _ _ z => False.elim z)
      have fine_ : ∀ {σz : L2.St} {Hz : Hp} {Q : Shared → Prop}, Inv (suiteX X a (X.pn ++ pins)) [] σz Hz sz → (∀ sy, Inv X pins (σz.set i none) Hz sy → Q sy) →
          wpAny (model X.prog X.w) X.A (do bindName X.env n .none; unbindBehindTheSuite X.env n pos') (fun _ sy => Q sy) X.xe sz := fun {σz Hz Q} Iz hq => gone_ok (inv_unsuite Iz ok) hN hi hln hq
      cases f with
      | next =>
        obtain ⟨σz, Hz, Iz, qz⟩ := got
        exact fine_ Iz fun sy Iy => ⟨_, _, Iy, qz⟩
      | brk =>
        obtain ⟨σz, Hz, Iz, qz⟩ := got
        exact fine_ Iz fun sy Iy => ⟨_, _, Iy, qz⟩
      | cont =>
        obtain ⟨σz, Hz, Iz, qz⟩ := got
        exact fine_ Iz fun sy Iy => ⟨_, _, Iy, qz⟩
      | ret u =>
        obtain ⟨vz, σz, Hz, Iz, rz, qz⟩ := got
        exact fine_ Iz fun sy Iy => ⟨_, _, _, Iy, rz, qz⟩
    | false =>
      show wpAny _ X.A (handleBy (.ref a) X.env []) _ _ _
      refine wpAny_handleBy_nil ?_
      obtain ⟨k1, k2, k3, oe, vs, T, oT, ts', he, hz, hd, h1, hr⟩ := id fly3
      unfold PySem.passOn
      refine wpAny_bind (wpAny_field he hd h1 ?_)
      rw [if_neg (show ¬ ((Value.ref T == Value.none) = true) from by simp)]
      have goesOn : wpAny (model X.prog X.w) X.A (setFlight (.ref a) X.env.frame) (fun _ s4 => wpAny (model X.prog X.w) X.A (throw (.ref a) : Sem Flow) (SP X pins D) X.xe s4) X.xe { s' with heap := p3 } := by
        rw [hf]
        refine HandSPX.setFlight_upZ fly3 fun p4 hld4 g4 => wpAny_throw (tk _ _ ?_)
        exact ⟨a, Gr, sK, pins, σ', H', cl, d, rfl, Iv, old, (up.trans g3).trans g4, .inr (.inr (by rw [hs]; exact hld4)), na, osE, bare, onN rfl⟩
      first
        | exact wpAny_bind (wpAny_pure (wpAny_bind goesOn))
        | exact wpAny_bind goesOn
  · cases f with
    | next =>
      obtain ⟨σ', H', Iv', q⟩ := got
      exact wpAny_execs_nil ⟨σ', H', Iv'.ofTry ok, q⟩
    | brk =>
      obtain ⟨σ', H', Iv', q⟩ := got
      exact ⟨σ', H', Iv'.ofTry ok, q⟩
    | cont =>
      obtain ⟨σ', H', Iv', q⟩ := got
      exact ⟨σ', H', Iv'.ofTry ok, q⟩
    | ret u =>
      obtain ⟨v, σ', H', Iv', r, q⟩ := got
      exact ⟨v, σ', H', Iv'.ofTry ok, r, q⟩
end
/-- isinstance of an exception's object -/
def rIsX (K : PySem.W.Frag) : List V → Hp → VK → Prop := fun xs H Q => ∃ (a D C : Addr) (b : Bool), xs = [.ref a, .ref C] ∧ ExAt H (.ref D) a ∧ ExcC K D ∧ PySem.W.kitOne K (.ref D) (.ref C) = some b ∧ Q (.bl b) H
theorem call_isX {X : Cx} : CallR X (.builtin "isinstance") (rIsX X.K) := by
  intro pins s σ H xs us Q I r h
  obtain ⟨a, D, C, b, rfl, ha, hc, e, q⟩ := h
  obtain ⟨u1, u2, rfl, r1, r2⟩ := vals2 r
  cases (show u1 = Value.ref a from r1)
  cases (show u2 = Value.ref C from r2)
  obtain ⟨oe, vs, ho, hz, hd⟩ : ∃ (oe : Obj) (vs : Array Value), s.heap.get? a = some oe ∧ Zc (.ref D) none oe ∧ oe.data = .fields vs := by
    rcases ha with ha | ha
    · obtain ⟨⟨oe, vs, ho, hz, hd⟩, _, _⟩ := I.hok a _ ha
      exact ⟨oe, vs, ho, hz, hd⟩
    · obtain ⟨⟨oe, vs, ho, hz, hd, _⟩, _, _⟩ := I.hok a _ ha
      exact ⟨oe, vs, ho, hz, hd⟩
  have N : PySem.W.InstAt s.heap a oe D none := by
    obtain ⟨oc, od, oda, osl⟩ := oe
    obtain ⟨k1, k2⟩ := hz
    dsimp only at k1 k2 hd
    subst k1 k2 hd
    exact ⟨ho, rfl, rfl, trivial⟩
  have Kx := PySem.W.handS_kitx_exc (K := X.K) (x := a) (ox := oe) hc.hg hc.hk hc.hs hc.hd hc.ha hc.hn hc.ht hc.hm
  exact PySem.W.kia_one Kx I.kIn N e (fun z => nomatch z) fun tk => ⟨.bl b, H, I.tok tk, rfl, q⟩
end Ip

set_option Elab.async false
set_option linter.all false
set_option maxRecDepth 100000
set_option maxHeartbeats 2000000
/-! IpOp: the layer's rules for the built-in operations, over general data. -/
namespace Ip
open PySem PySem.Spec PyProof.Rows L2

def pr2 (Γ : Env) (g : D → D → Option D) : R2 := fun x y H Q => ∃ G dx dy z, Same G H ∧ RepA Γ G H dx x ∧ RepA Γ G H dy y ∧ g dx dy = some z ∧ ∀ v H', Same H H' → Rep Γ (grow G H H') z v → Q v H'
def pr1 (Γ : Env) (g : D → Option D) : V → Hp → VK → Prop := fun x H Q => ∃ G dx z, Same G H ∧ RepA Γ G H dx x ∧ g dx = some z ∧ ∀ v H', Same H H' → Rep Γ (grow G H H') z v → Q v H'
def prL (Γ : Env) (g : List D → Option D) : List V → Hp → VK → Prop := fun xs H Q => ∃ G ds z, Same G H ∧ RepAs Γ G H ds xs ∧ g ds = some z ∧ ∀ v H', Same H H' → Rep Γ (grow G H H') z v → Q v H'

theorem OpR.imp {X : Cx} {f : Value → Value → Sem Value} {r r' : R2} (h : OpR X f r) (k : ∀ x y H Q, r' x y H Q → r x y H Q) : OpR X f r' := fun pins s σ H x y v u Q I rx ry q => h pins s σ H x y v u Q I rx ry (k x y H Q q)
theorem CallR.imp {X : Cx} {f : Value} {r r' : List V → Hp → VK → Prop} (h : CallR X f r) (k : ∀ x H Q, r' x H Q → r x H Q) : CallR X f r' := fun pins s σ H x v Q I rx q => h pins s σ H x v Q I rx (k x H Q q)
theorem UnR.imp {X : Cx} {f : Value → Sem Value} {r r' : V → Hp → VK → Prop} (h : UnR X f r) (k : ∀ x H Q, r' x H Q → r x H Q) : UnR X f r' := fun pins s σ H x v Q I rx q => h pins s σ H x v Q I rx (k x H Q q)
theorem IxR.imp {X : Cx} {r r' : R2} (h : IxR X r) (k : ∀ x y H Q, r' x y H Q → r x y H Q) : IxR X r' := fun value slice pins s σ H x y v u Q I rx ry q hs => h value slice pins s σ H x y v u Q I rx ry (k x y H Q q) hs

section
variable {Γ : Env} {G H : Hp} {Q : VK} {z : D}
/-- the value stands as it is -/
theorem give0 (S : Same G H) (q : ∀ v H', Same H H' → Rep Γ (grow G H H') z v → Q v H') {v : V} (r : Rep Γ G z v) : Q v H :=
  q v H (Same.refl H) (Rep.mono (grow_same S) r)
theorem giveL {xs : List D} (S : Same G H) (q : ∀ v H', Same H H' → Rep Γ (grow G H H') (.lst xs) v → Q v H') {vs : List V} (r : RepL Γ G xs vs) {p : Addr} (hp : H p = none) : Q (.ref p) (upd H p (.lst vs)) :=
  q _ _ (same_upd hp) (.lst (.inl (grow_up hp)) (RepL.mono (grow_same S) r))
theorem giveT {xs : List D} (S : Same G H) (q : ∀ v H', Same H H' → Rep Γ (grow G H H') (.tup xs) v → Q v H') {vs : List V} (r : RepL Γ G xs vs) {p : Addr} (hp : H p = none) : Q (.ref p) (upd H p (.tup vs)) :=
  q _ _ (same_upd hp) (.tup (SqT.of (grow_up hp)) (RepL.mono (grow_same S) r))
theorem giveR {lo hi : Int} (S : Same G H) (q : ∀ v H', Same H H' → Rep Γ (grow G H H') (.rng lo hi) v → Q v H') {p : Addr} (hp : H p = none) : Q (.ref p) (upd H p (.rng lo hi)) :=
  q _ _ (same_upd hp) (.rng (grow_up hp))

/-! ### data as the library reads it -/
mutual
theorem Rep.dp (S : Same G H) : ∀ {x : D} {v : V}, pln x = true → Rep Γ G x v → Dp Γ.K H v (toP x)
  | _, _, _, .non => .non
  | _, _, _, .bl b => .bl b
  | _, _, _, .int i => .int i
  | _, _, _, .str s => .str _
  | _, _, h, .tup t r => .tup (Same.sqT S t) (RepL.dp S (by simpa [pln] using h) r)
  | _, _, h, .lst t r => .lst (.inl (Same.rd S t)) (RepL.dp S (by simpa [pln] using h) r)
  | _, _, h, .rng _ => by simp [pln] at h
  | _, _, h, .glo _ _ => by simp [pln] at h
  | _, _, h, .ty _ => by simp [pln] at h
  | _, _, h, .dctK _ _ => by simp [pln] at h
theorem RepL.dp (S : Same G H) : ∀ {xs : List D} {vs : List V}, plnL xs = true → RepL Γ G xs vs → DpAll Γ.K H vs (toPL xs)
  | _, _, _, .nil => .nil
  | _, _, h, .cons a r => by
    simp only [plnL, Bool.and_eq_true] at h
    exact .cons (Rep.dp S h.1 a) (RepL.dp S h.2 r)
end
theorem RepA.dp (S : Same G H) {x : D} {v : V} (h : pln x = true) (r : RepA Γ G H x v) : Dp Γ.K H v (toP x) := by
  cases r with
  | fix r => exact Rep.dp S h r
  | lst t r => exact .lst (.inl (.inl t)) (RepL.dp S (by simpa [pln] using h) r)
end

section
variable {X : Cx} {Γ : Env}
theorem hsz : sizeLine = lim := sizeLine_eq
/-! ### arithmetic -/
theorem op_catR : OpR X (binaryOp .Add) (fun x y H Q => ∃ l b xs zs, x = .ref l ∧ y = .ref b ∧ Rd H l (.lst xs) ∧ Rd H b (.lst zs) ∧ xs.length + zs.length ≤ sizeLine ∧ ∀ p, H p = none → Q (.ref p) (upd H p (.lst (xs ++ zs)))) := by
  intro pins s σ H x y v u Q I rx ry h
  obtain ⟨l, b, xs, zs, rfl, rfl, hH, hB, hz, q⟩ := h
  cases rx
  cases ry
  obtain ⟨z, its, n, r, e⟩ := hH.ok I.hok
  obtain ⟨z2, its2, n2, r2, e2⟩ := hB.ok I.hok
  have hl := r.length
  have hl2 := r2.length
  refine PySem.P.add_list e e2 ?_ (by rw [List.size_toArray, List.size_toArray]; omega)
  have ea : its.toArray ++ its2.toArray = (its ++ its2).toArray := by simp
  rw [ea]
  exact ⟨.ref _, _, I.lnew (t' := s.toks) (r.append r2) (by rw [List.length_append]; omega), rfl, q _ I.fresh⟩
theorem op_cat0 : OpR X (binaryOp .Add) (fun x y H Q => ∃ a b ys, x = .ref a ∧ y = .ref b ∧ SqT X.K H a [] ∧ SqT X.K H b ys ∧ Q (.ref b) H) := by
  intro pins s σ H x y v u Q I rx ry h
  obtain ⟨a, b, ys, rfl, rfl, ha, hb, q⟩ := h
  cases rx
  cases ry
  obtain ⟨its, r1, p1, _⟩ := I.tuple ha
  obtain ⟨its2, r2, p2, _⟩ := I.tuple hb
  cases r1
  exact L2.cat_tup0 p1 p2 ⟨.ref b, H, I, rfl, q⟩
theorem or_add (hK : X.K = Γ.K) : OpR X (binaryOp .Add) (pr2 Γ (dbin .add)) := by
  refine OpR.imp (OpR.or op_add (OpR.or op_add_str (OpR.or op_catR (OpR.or op_catT op_cat0)))) fun x y H Q h => ?_
  obtain ⟨G, dx, dy, z, S, ax, ay, e, q⟩ := h
  cases dx <;> cases dy <;> first | (simp [dbin] at e; done) | skip
  · rename_i i j
    cases e
    exact .inl ⟨i, j, ax.int, ay.int, give0 S q (.int _)⟩
  · rename_i a b
    simp only [dbin] at e
    split at e
    · rename_i hz
      cases e
      refine .inr (.inl ⟨sv a, sv b, ax.str, ay.str, by rw [hsz]; simpa [Str.length, sv] using hz, ?_⟩)
      have e2 : sv a ++ sv b = sv (a ++ b) := by show Str.mk _ = Str.mk _; simp [sv]
      rw [e2]
      exact give0 S q (.str _)
    · cases e
  · rename_i a b
    simp only [dbin] at e
    split at e
    · rename_i hz
      cases e
      obtain ⟨l, vs, rfl, hl, r1⟩ := ax.tup
      obtain ⟨m, us, rfl, hm, r2⟩ := ay.tup
      have hl' : SqT X.K H l vs := by rw [hK]; exact Same.sqT S hl
      have hm' : SqT X.K H m us := by rw [hK]; exact Same.sqT S hm
      cases vs with
      | nil =>
        cases r1
        exact .inr (.inr (.inr (.inr ⟨l, m, us, rfl, rfl, hl', hm', give0 S q (.tup hm r2)⟩)))
      | cons v vs =>
        refine .inr (.inr (.inr (.inl ⟨l, m, v :: vs, us, rfl, rfl, hl', hm', by simp, by rw [hsz, r1.length, r2.length]; exact hz, fun hu => ?_, fun _ p hp => giveT S q (r1.append r2) hp⟩)))
        subst hu
        cases r2
        rw [List.append_nil] at q
        exact give0 S q (.tup hl r1)
    · cases e
  · rename_i a b
    simp only [dbin] at e
    split at e
    · rename_i hz
      cases e
      obtain ⟨l, vs, rfl, hl, r1⟩ := ax.isLst S
      obtain ⟨m, us, rfl, hm, r2⟩ := ay.isLst S
      exact .inr (.inr (.inl ⟨l, m, vs, us, rfl, rfl, hl, hm, by rw [hsz, r1.length, r2.length]; exact hz, fun p hp => giveL S q (r1.append r2) hp⟩))
    · cases e
theorem or_sub : OpR X (binaryOp .Sub) (pr2 Γ (dbin .sub)) := by
  refine OpR.imp op_sub fun x y H Q h => ?_
  obtain ⟨G, dx, dy, z, S, ax, ay, e, q⟩ := h
  cases dx <;> cases dy <;> first | (simp [dbin] at e; done) | skip
  · rename_i i j
    cases e
    exact ⟨i, j, ax.int, ay.int, give0 S q (.int _)⟩
theorem or_mul : OpR X (binaryOp .Mult) (pr2 Γ (dbin .mul)) := by
  refine OpR.imp op_mul fun x y H Q h => ?_
  obtain ⟨G, dx, dy, z, S, ax, ay, e, q⟩ := h
  cases dx <;> cases dy <;> first | (simp [dbin] at e; done) | skip
  · rename_i i j
    simp only [dbin] at e
    split at e
    · rename_i hc
      cases e
      exact ⟨i, j, ax.int, ay.int, hc, give0 S q (.int _)⟩
    · cases e
theorem or_fdiv : OpR X (binaryOp .FloorDiv) (pr2 Γ (dbin .fdiv)) := by
  refine OpR.imp op_fdivN fun x y H Q h => ?_
  obtain ⟨G, dx, dy, z, S, ax, ay, e, q⟩ := h
  cases dx <;> cases dy <;> first | (simp [dbin] at e; done) | skip
  · rename_i i j
    simp only [dbin] at e
    split at e
    · rename_i hc
      cases e
      exact ⟨i, j, ax.int, ay.int, hc, give0 S q (.int _)⟩
    · cases e
theorem or_mod : OpR X (binaryOp .Mod) (pr2 Γ (dbin .mod)) := by
  refine OpR.imp op_modN fun x y H Q h => ?_
  obtain ⟨G, dx, dy, z, S, ax, ay, e, q⟩ := h
  cases dx <;> cases dy <;> first | (simp [dbin] at e; done) | skip
  · rename_i i j
    simp only [dbin] at e
    split at e
    · rename_i hc
      cases e
      exact ⟨i, j, ax.int, ay.int, hc, give0 S q (.int _)⟩
    · cases e
theorem or_pow : OpR X (binaryOp .Pow) (pr2 Γ (dbin .pow)) := by
  refine OpR.imp op_pow fun x y H Q h => ?_
  obtain ⟨G, dx, dy, z, S, ax, ay, e, q⟩ := h
  cases dx <;> cases dy <;> first | (simp [dbin] at e; done) | skip
  · rename_i i j
    simp only [dbin] at e
    split at e
    · rename_i hc
      cases e
      exact ⟨i, j, ax.int, ay.int, hc, give0 S q (.int _)⟩
    · cases e

/-! ### comparisons -/
theorem eqD_some {x y : D} {b : Bool} (h : eqD x y = some b) : shp x = true ∧ shp y = true ∧ b = eqv x y := by
  unfold eqD at h
  split at h
  · rename_i hc
    cases h
    simp only [Bool.and_eq_true] at hc
    exact ⟨hc.1, hc.2, rfl⟩
  · cases h
theorem or_eq (hK : X.K = Γ.K) (hu : X.A.units + 64 < cLine) : OpR X (compareOp .Eq) (pr2 Γ fun x y => (dcmp .eq x y).map .bl) := by
  refine OpR.imp (op_eqD hu) fun x y H Q h => ?_
  obtain ⟨G, dx, dy, z, S, ax, ay, e, q⟩ := h
  simp only [dcmp] at e
  cases e2 : eqD dx dy with
  | none => rw [e2] at e; cases e
  | some b =>
    rw [e2] at e
    cases e
    obtain ⟨h1, h2, rfl⟩ := eqD_some e2
    refine ⟨toP dx, toP dy, by rw [hK]; exact ax.dp S (shp_ok h1).1, by rw [hK]; exact ay.dp S (shp_ok h2).1, (shp_ok h1).2, (shp_ok h2).2, ?_⟩
    rw [toP_eqv _ _ (shp_ok h1).1 (shp_ok h2).1]
    exact give0 S q (.bl _)
theorem or_ne (hK : X.K = Γ.K) (hu : X.A.units + 64 < cLine) : OpR X (compareOp .NotEq) (pr2 Γ fun x y => (dcmp .ne x y).map .bl) := by
  refine OpR.imp (op_neD hu) fun x y H Q h => ?_
  obtain ⟨G, dx, dy, z, S, ax, ay, e, q⟩ := h
  simp only [dcmp] at e
  cases e2 : eqD dx dy with
  | none => rw [e2] at e; cases e
  | some b =>
    rw [e2] at e
    cases e
    obtain ⟨h1, h2, rfl⟩ := eqD_some e2
    refine ⟨toP dx, toP dy, by rw [hK]; exact ax.dp S (shp_ok h1).1, by rw [hK]; exact ay.dp S (shp_ok h2).1, (shp_ok h1).2, (shp_ok h2).2, ?_⟩
    rw [toP_eqv _ _ (shp_ok h1).1 (shp_ok h2).1]
    exact give0 S q (.bl _)
theorem cmpOk_ok {x y : D} (h : cmpOk x y = true) : pln x = true ∧ pln y = true ∧ alk x y = true ∧ alk y x = true ∧ dep x ≤ 64 ∧ dep y ≤ 64 := by
  simp only [cmpOk, Bool.and_eq_true, shp, decide_eq_true_eq] at h
  exact ⟨h.1.1.1.1, h.1.1.2.1, h.1.2, h.2, h.1.1.1.2, h.1.1.2.2⟩
theorem ltD_some {x y : D} {b : Bool} (h : ltD x y = some b) : cmpOk x y = true ∧ b = ltv x y := by
  unfold ltD at h
  split at h
  · rename_i hc
    cases h
    exact ⟨hc, rfl⟩
  · cases h
theorem alk_none {x y : D} (h : alk x y = true) : toP x ≠ .none := by cases x <;> simp [alk] at h <;> simp [toP]
/-- the four, of alike data -/
def rOrd (Γ : Env) (g : D → D → Bool) : R2 := fun x y H Q => ∃ G dx dy, Same G H ∧ RepA Γ G H dx x ∧ RepA Γ G H dy y ∧ cmpOk dx dy = true ∧ Q (.bl (g dx dy)) H
theorem ord_core (hK : X.K = Γ.K) (hu : X.A.units + 64 < cLine) {op : CmpOp} {g : D → D → Bool}
    (rule : ∀ {s : Shared} {a b : Value} {da db : PyData} {as bs : List Addr} {Q : Value → Shared → Prop} (x y : D), da = toP x → db = toP y → cmpOk x y = true → Reads s.heap a da as → Reads s.heap b db bs → W.alike da db = true → W.alike db da = true → da ≠ .none → X.A.units + min da.depth db.depth < cLine → Q (.bool (g x y)) s → wpAny (model X.prog X.w) X.A (compareOp op a b) Q X.xe s) :
    OpR X (compareOp op) (rOrd Γ g) := by
  intro pins s σ H x y v u Q I rx ry h
  obtain ⟨G, dx, dy, S, ax, ay, hc, q⟩ := h
  obtain ⟨p1, p2, k1, k2, d1, d2⟩ := cmpOk_ok hc
  obtain ⟨as, r1⟩ := Dp.reads I (toP dx) x v (by rw [hK]; exact ax.dp S p1) rx
  obtain ⟨bs, r2⟩ := Dp.reads I (toP dy) y u (by rw [hK]; exact ay.dp S p2) ry
  refine rule dx dy rfl rfl hc r1 r2 (alk_pln _ _ k1) (alk_pln _ _ k2) (alk_none k1) ?_ ⟨.bl _, H, I, rfl, q⟩
  rw [toP_dep, toP_dep]
  have := Nat.min_le_left (dep dx) (dep dy)
  omega
theorem lt_cases (x y : D) : (∃ i j, x = .int i ∧ y = .int j ∧ dcmp .lt x y = some (decide (i < j))) ∨ dcmp .lt x y = ltD x y := by
  cases x <;> cases y <;> first | exact .inl ⟨_, _, rfl, rfl, rfl⟩ | exact .inr rfl
theorem gt_cases (x y : D) : (∃ i j, x = .int i ∧ y = .int j ∧ dcmp .gt x y = some (decide (j < i))) ∨ dcmp .gt x y = ltD y x := by
  cases x <;> cases y <;> first | exact .inl ⟨_, _, rfl, rfl, rfl⟩ | exact .inr rfl
theorem le_cases (x y : D) : (∃ i j, x = .int i ∧ y = .int j ∧ dcmp .le x y = some (decide (i ≤ j))) ∨ dcmp .le x y = (ltD y x).map not := by
  cases x <;> cases y <;> first | exact .inl ⟨_, _, rfl, rfl, rfl⟩ | exact .inr rfl
theorem ge_cases (x y : D) : (∃ i j, x = .int i ∧ y = .int j ∧ dcmp .ge x y = some (decide (j ≤ i))) ∨ dcmp .ge x y = (ltD x y).map not := by
  cases x <;> cases y <;> first | exact .inl ⟨_, _, rfl, rfl, rfl⟩ | exact .inr rfl
theorem or_lt (hK : X.K = Γ.K) (hu : X.A.units + 64 < cLine) : OpR X (compareOp .Lt) (pr2 Γ fun x y => (dcmp .lt x y).map .bl) := by
  refine OpR.imp (OpR.or op_lt (ord_core (g := ltv) hK hu fun x y e1 e2 hc r1 r2 k1 k2 hn hd hq => ?_)) fun x y H Q h => ?_
  · obtain ⟨p1, p2, k1', k2', _, _⟩ := cmpOk_ok hc
    refine W.lt_data r1 r2 k1 hn hd ?_
    subst e1; subst e2
    rw [ltv_ok _ _ p1 p2 k1']
    exact hq
  · obtain ⟨G, dx, dy, z, S, ax, ay, e, q⟩ := h
    dsimp only at e
    rcases lt_cases dx dy with ⟨i, j, rfl, rfl, e3⟩ | e3
    · rw [e3] at e
      cases e
      exact .inl ⟨_, _, ax.int, ay.int, give0 S q (.bl _)⟩
    · rw [e3] at e
      cases e2 : ltD dx dy with
      | none => rw [e2] at e; cases e
      | some b =>
        rw [e2] at e
        cases e
        obtain ⟨hc, rfl⟩ := ltD_some e2
        exact .inr ⟨G, dx, dy, S, ax, ay, hc, give0 S q (.bl _)⟩
theorem cmpOk_comm {x y : D} (h : cmpOk x y = true) : cmpOk y x = true := by
  simp only [cmpOk, Bool.and_eq_true] at h ⊢
  exact ⟨⟨⟨h.1.1.2, h.1.1.1⟩, h.2⟩, h.1.2⟩
theorem or_gt (hK : X.K = Γ.K) (hu : X.A.units + 64 < cLine) : OpR X (compareOp .Gt) (pr2 Γ fun x y => (dcmp .gt x y).map .bl) := by
  refine OpR.imp (OpR.or op_gt (ord_core (g := fun x y => ltv y x) hK hu fun x y e1 e2 hc r1 r2 k1 k2 hn hd hq => ?_)) fun x y H Q h => ?_
  · obtain ⟨p1, p2, k1', k2', _, _⟩ := cmpOk_ok hc
    refine W.gt_data r1 r2 k1 hn hd ?_
    subst e1; subst e2
    rw [ltv_ok _ _ p2 p1 k2']
    exact hq
  · obtain ⟨G, dx, dy, z, S, ax, ay, e, q⟩ := h
    dsimp only at e
    rcases gt_cases dx dy with ⟨i, j, rfl, rfl, e3⟩ | e3
    · rw [e3] at e
      cases e
      exact .inl ⟨_, _, ax.int, ay.int, give0 S q (.bl _)⟩
    · rw [e3] at e
      cases e2 : ltD dy dx with
      | none => rw [e2] at e; cases e
      | some b =>
        rw [e2] at e
        cases e
        obtain ⟨hc, rfl⟩ := ltD_some e2
        exact .inr ⟨G, dx, dy, S, ax, ay, cmpOk_comm hc, give0 S q (.bl _)⟩
theorem or_le (hK : X.K = Γ.K) (hu : X.A.units + 64 < cLine) : OpR X (compareOp .LtE) (pr2 Γ fun x y => (dcmp .le x y).map .bl) := by
  refine OpR.imp (OpR.or op_le (ord_core (g := fun x y => !ltv y x) hK hu fun x y e1 e2 hc r1 r2 k1 k2 hn hd hq => ?_)) fun x y H Q h => ?_
  · obtain ⟨p1, p2, k1', k2', _, _⟩ := cmpOk_ok hc
    refine W.le_data r1 r2 k1 hn hd ?_
    subst e1; subst e2
    rw [ltv_ok _ _ p2 p1 k2']
    exact hq
  · obtain ⟨G, dx, dy, z, S, ax, ay, e, q⟩ := h
    dsimp only at e
    rcases le_cases dx dy with ⟨i, j, rfl, rfl, e3⟩ | e3
    · rw [e3] at e
      cases e
      exact .inl ⟨_, _, ax.int, ay.int, give0 S q (.bl _)⟩
    · rw [e3] at e
      cases e2 : ltD dy dx with
      | none => rw [e2] at e; cases e
      | some b =>
        rw [e2] at e
        cases e
        obtain ⟨hc, rfl⟩ := ltD_some e2
        exact .inr ⟨G, dx, dy, S, ax, ay, cmpOk_comm hc, give0 S q (.bl _)⟩
theorem or_ge (hK : X.K = Γ.K) (hu : X.A.units + 64 < cLine) : OpR X (compareOp .GtE) (pr2 Γ fun x y => (dcmp .ge x y).map .bl) := by
  refine OpR.imp (OpR.or op_ge (ord_core (g := fun x y => !ltv x y) hK hu fun x y e1 e2 hc r1 r2 k1 k2 hn hd hq => ?_)) fun x y H Q h => ?_
  · obtain ⟨p1, p2, k1', k2', _, _⟩ := cmpOk_ok hc
    refine W.ge_data r1 r2 k1 hn hd ?_
    subst e1; subst e2
    rw [ltv_ok _ _ p1 p2 k1']
    exact hq
  · obtain ⟨G, dx, dy, z, S, ax, ay, e, q⟩ := h
    dsimp only at e
    rcases ge_cases dx dy with ⟨i, j, rfl, rfl, e3⟩ | e3
    · rw [e3] at e
      cases e
      exact .inl ⟨_, _, ax.int, ay.int, give0 S q (.bl _)⟩
    · rw [e3] at e
      cases e2 : ltD dx dy with
      | none => rw [e2] at e; cases e
      | some b =>
        rw [e2] at e
        cases e
        obtain ⟨hc, rfl⟩ := ltD_some e2
        exact .inr ⟨G, dx, dy, S, ax, ay, hc, give0 S q (.bl _)⟩
end
end Ip

set_option Elab.async false
set_option linter.all false
set_option maxRecDepth 100000
set_option maxHeartbeats 2000000
/-! IpOp2: in, is, subscripts, slices, calls of the built-in functions. -/
namespace Ip
open PySem PySem.Spec PyProof.Rows L2
section
variable {X : Cx} {Γ : Env}
theorem depL_all : ∀ {xs : List D}, xs.all shp = true → depL xs ≤ 64 ∧ plnL xs = true
  | [], _ => ⟨by simp [depL], rfl⟩
  | x :: xs, h => by
    simp only [List.all_cons, Bool.and_eq_true] at h
    obtain ⟨h1, h2⟩ := depL_all h.2
    have h3 := h.1
    simp only [shp, Bool.and_eq_true, decide_eq_true_eq] at h3
    refine ⟨?_, by simp [plnL, h3.1, h2]⟩
    simp only [depL]
    omega
theorem inD_some {x : D} {xs : List D} {b : Bool} (h : inD x xs = some b) : shp x = true ∧ xs.all shp = true ∧ b = xs.any fun y => eqv y x := by
  unfold inD at h
  split at h
  · rename_i hc
    cases h
    simp only [Bool.and_eq_true] at hc
    exact ⟨hc.1, hc.2, rfl⟩
  · cases h
theorem any_eqv {x : D} (hx : pln x = true) : ∀ {xs : List D}, plnL xs = true → ((toPL xs).any fun y => PyData.eqv y (toP x)) = xs.any fun y => eqv y x
  | [], _ => rfl
  | y :: ys, h => by
    simp only [plnL, Bool.and_eq_true] at h
    simp only [toPL, List.any_cons]
    rw [toP_eqv y x h.1 hx, any_eqv hx h.2]
theorem RepA.seq {G H : Hp} {v : V} (S : Same G H) {y : D} {xs : List D} (e : seqOf y = some xs) (r : RepA Γ G H y v) : (y = .lst xs ∧ ∃ a vs, v = .ref a ∧ Rd H a (.lst vs) ∧ RepL Γ G xs vs) ∨ (y = .tup xs ∧ ∃ a vs, v = .ref a ∧ SqT Γ.K G a vs ∧ RepL Γ G xs vs) := by
  cases y with
  | lst ys => cases e; exact .inl ⟨rfl, r.isLst S⟩
  | tup ys => cases e; exact .inr ⟨rfl, r.tup⟩
  | _ => cases e
theorem in_core (hK : X.K = Γ.K) (hu : X.A.units + 65 < cLine) (neg : Bool) : OpR X (compareOp (if neg then .NotIn else .In)) (fun x y H Q => ∃ G dx dy xs b, Same G H ∧ RepA Γ G H dx x ∧ RepA Γ G H dy y ∧ seqOf dy = some xs ∧ inD dx xs = some b ∧ Q (.bl (if neg then !b else b)) H) := by
  intro pins s σ H x y v u Q I rx ry h
  obtain ⟨G, dx, dy, xs, b, S, ax, ay, hs, hi, q⟩ := h
  obtain ⟨h1, h2, rfl⟩ := inD_some hi
  obtain ⟨d1, d2⟩ := depL_all h2
  have hpx := (shp_ok h1).1
  have hdx : dep dx ≤ 64 := by
    simp only [shp, Bool.and_eq_true, decide_eq_true_eq] at h1
    exact h1.2
  obtain ⟨as, r1⟩ := Dp.reads I (toP dx) x v (by rw [hK]; exact ax.dp S hpx) rx
  have hroom : X.A.units + 1 + min (PyData.depthAll (toPL xs)) (toP dx).depth < cLine := by
    rw [toPL_dep, toP_dep]
    have := Nat.min_le_left (depL xs) (dep dx)
    omega
  have hc1 := toPL_lay xs d2
  have hc2 := toP_lay dx hpx
  rw [← any_eqv hpx d2] at q
  rcases RepA.seq S hs ay with ⟨rfl, _⟩ | ⟨rfl, _⟩
  · obtain ⟨bs, r2⟩ := Dp.reads I (.list (toPL xs)) y u (by rw [hK]; exact ay.dp S (by simpa [pln] using d2)) ry
    cases neg with
    | true => exact SeqAt.notIn_list_reads r2 r1 hc1 hc2 hroom ⟨.bl _, H, I, rfl, q⟩
    | false => exact SeqAt.in_list_reads r2 r1 hc1 hc2 hroom ⟨.bl _, H, I, rfl, q⟩
  · obtain ⟨bs, r2⟩ := Dp.reads I (.tuple (toPL xs)) y u (by rw [hK]; exact ay.dp S (by simpa [pln] using d2)) ry
    cases neg with
    | true => exact SeqAt.notIn_tuple_reads r2 r1 hc1 hc2 hroom ⟨.bl _, H, I, rfl, q⟩
    | false => exact SeqAt.in_tuple_reads r2 r1 hc1 hc2 hroom ⟨.bl _, H, I, rfl, q⟩
theorem keyV {G H : Hp} {k : D} {key : Key} {v : V} (hk : keyK k = some key) (r : RepA Γ G H k v) : v = kV key := by
  cases k <;> first | (cases hk; done) | skip
  · cases hk; exact r.int
  · cases hk; exact r.str
theorem RepP.get {G : Hp} {k : D} {key : Key} (hk : keyK k = some key) : ∀ {kvs : List (D × D)} {ks : List (Key × V)}, RepP Γ G kvs ks → (getK kvs k = none ∧ valV ks key = none) ∨ ∃ x v, getK kvs k = some x ∧ valV ks key = some v ∧ Rep Γ G x v
  | _, _, .nil => .inl ⟨rfl, rfl⟩
  | (k0, x) :: r, (key0, v) :: rs, .cons h0 hx t => by
    by_cases e : k0 = k
    · subst e
      rw [hk] at h0
      cases h0
      exact .inr ⟨x, v, by simp [getK], valV_pos rfl, hx⟩
    · have e2 : ¬ key0 = key := fun q => e (keyK_inj h0 (q ▸ hk))
      have e3 : getK ((k0, x) :: r) k = getK r k := by simp [getK, List.find?_cons, e]
      rw [e3, valV_neg e2]
      exact RepP.get hk t
theorem op_inD2 (hu : X.A.units + 1 < cLine) : OpR X (compareOp .In) (fun x y H Q => ∃ a o, y = .ref a ∧ DGet H a x o ∧ Q (.bl o.isSome) H) := by
  intro pins s σ H x y v u Q I rx ry h
  obtain ⟨a, o, rfl, g, q⟩ := h
  cases ry
  exact d_in hu I g rx fun s3 I3 => ⟨.bl o.isSome, H, I3, rfl, q⟩
theorem op_notInD2 (hu : X.A.units + 1 < cLine) : OpR X (compareOp .NotIn) (fun x y H Q => ∃ a o, y = .ref a ∧ DGet H a x o ∧ Q (.bl (!o.isSome)) H) := by
  intro pins s σ H x y v u Q I rx ry h
  obtain ⟨a, o, rfl, g, q⟩ := h
  cases ry
  exact d_notIn hu I g rx fun s3 I3 => ⟨.bl (!o.isSome), H, I3, rfl, q⟩
theorem ix_dict (hu : X.A.units + 1 < cLine) : IxR X (fun x y H Q => ∃ a v, x = .ref a ∧ DGet H a y (some v) ∧ Q v H) := by
  intro value slice pins s σ H x y v u Q I rx ry h hs
  obtain ⟨a, w, rfl, g, q⟩ := h
  cases rx
  exact tail_any (dict_typeIs I g) PySem.F.slot_dict_getitem.lookup (d_getItem hu I g ry fun w' s3 I3 rw' => ⟨w, H, I3, rw', q⟩) hs
/-- where the key stands -/
theorem dget_of {G H : Hp} (S : Same G H) {kvs : List (D × D)} {k : D} {x y : V} (hk : (keyK k).isSome = true) (ax : RepA Γ G H k x) (ay : RepA Γ G H (.dct kvs) y) : ∃ a o, y = .ref a ∧ DGet H a x o ∧ o.isSome = (getK kvs k).isSome ∧ ∀ z, getK kvs k = some z → ∃ v, o = some v ∧ Rep Γ G z v := by
  obtain ⟨key, hk⟩ := Option.isSome_iff_exists.mp hk
  obtain ⟨a, ks, rfl, hr, rp⟩ := ay.isDct S
  refine ⟨a, valV ks key, rfl, .inl ⟨ks, key, hr, keyV hk ax, rfl⟩, ?_, fun z hz => ?_⟩
  · rcases rp.get hk with ⟨h1, h2⟩ | ⟨x, v, h1, h2, _⟩ <;> rw [h1, h2] <;> rfl
  · rcases rp.get hk with ⟨h1, _⟩ | ⟨x, v, h1, h2, h3⟩
    · rw [h1] at hz; cases hz
    · rw [h1] at hz; cases hz; exact ⟨v, h2, h3⟩
theorem or_in (hK : X.K = Γ.K) (hu : X.A.units + 65 < cLine) : OpR X (compareOp .In) (pr2 Γ fun x y => (dcmp .isin x y).map .bl) := by
  refine OpR.imp (OpR.or (in_core (Γ := Γ) hK hu false) (OpR.or op_in_rng (op_inD2 (by omega)))) fun x y H Q h => ?_
  obtain ⟨G, dx, dy, z, S, ax, ay, e, q⟩ := h
  simp only [dcmp] at e
  cases es : seqOf dy with
  | some xs =>
    rw [es] at e
    simp only at e
    cases e2 : inD dx xs with
    | none => rw [e2] at e; cases e
    | some b =>
      rw [e2] at e
      cases e
      exact .inl ⟨G, dx, dy, xs, b, S, ax, ay, es, e2, give0 S q (.bl _)⟩
  | none =>
    rw [es] at e
    have dctc : ∀ kvs, dy = .dct kvs → (if (keyK dx).isSome then some (getK kvs dx).isSome else none).map D.bl = some z → rIn X.K false x y H Q ∨ True := fun _ _ _ => .inr trivial
    have fin : ∀ kvs, dy = .dct kvs → (if (keyK dx).isSome then some (getK kvs dx).isSome else none).map D.bl = some z → ∃ a o, y = .ref a ∧ DGet H a x o ∧ Q (.bl o.isSome) H := fun kvs e1 e2 => by
      subst e1
      by_cases hk : (keyK dx).isSome = true
      · rw [if_pos hk] at e2
        cases e2
        obtain ⟨a, o, rfl, h1, h2, _⟩ := dget_of S hk ax ay
        exact ⟨a, o, rfl, h1, by rw [h2]; exact give0 S q (.bl _)⟩
      · rw [if_neg hk] at e2; cases e2
    cases dy <;> first | (cases es; done) | skip
    all_goals first | (cases dx <;> (simp at e; done)) | skip
    · exact .inr (.inr (fin _ rfl (by cases dx <;> exact e)))
    · cases dx <;> first | (simp at e; done) | skip
      rename_i lo hi i
      cases e
      obtain ⟨a, rfl, ha⟩ := ay.isRng
      exact .inr (.inl ⟨i, a, lo, hi, ax.int, rfl, S _ _ ha, give0 S q (.bl _)⟩)
theorem or_notin (hK : X.K = Γ.K) (hu : X.A.units + 65 < cLine) : OpR X (compareOp .NotIn) (pr2 Γ fun x y => (dcmp .notin x y).map .bl) := by
  refine OpR.imp (OpR.or (in_core (Γ := Γ) hK hu true) (op_notInD2 (by omega))) fun x y H Q h => ?_
  obtain ⟨G, dx, dy, z, S, ax, ay, e, q⟩ := h
  simp only [dcmp] at e
  cases es : seqOf dy with
  | some xs =>
    rw [es] at e
    simp only at e
    cases e2 : inD dx xs with
    | none => rw [e2] at e; cases e
    | some b =>
      rw [e2] at e
      cases e
      exact .inl ⟨G, dx, dy, xs, b, S, ax, ay, es, e2, give0 S q (.bl _)⟩
  | none =>
    rw [es] at e
    cases dy <;> first | (cases es; done) | (cases e; done) | skip
    rename_i kvs
    have e : (if (keyK dx).isSome then some (!(getK kvs dx).isSome) else none).map D.bl = some z := e
    by_cases hk : (keyK dx).isSome = true
    · rw [if_pos hk] at e
      cases e
      obtain ⟨a, o, rfl, h1, h2, _⟩ := dget_of S hk ax ay
      exact .inr ⟨a, o, rfl, h1, by rw [h2]; exact give0 S q (.bl _)⟩
    · rw [if_neg hk] at e; cases e
theorem RepA.isN {G H : Hp} {v : V} {x : D} (r : RepA Γ G H x v) : decide (x = .non) = decide (v = .non) := by
  cases r with
  | fix r => cases r <;> simp
  | lst _ _ => simp
theorem or_is : OpR X (compareOp .Is) (pr2 Γ fun x y => (dcmp .is_ x y).map .bl) := by
  refine OpR.imp op_isN fun x y H Q h => ?_
  obtain ⟨G, dx, dy, z, S, ax, ay, e, q⟩ := h
  cases dy <;> first | (simp [dcmp] at e; done) | skip
  have e' : some (D.bl (decide (dx = .non))) = some z := by
    rw [← e]; cases dx <;> rfl
  cases e'
  refine ⟨ay.non, ?_⟩
  rw [← ax.isN]
  exact give0 S q (.bl _)
theorem or_isnot : OpR X (compareOp .IsNot) (pr2 Γ fun x y => (dcmp .isnot x y).map .bl) := by
  refine OpR.imp op_notN fun x y H Q h => ?_
  obtain ⟨G, dx, dy, z, S, ax, ay, e, q⟩ := h
  cases dy <;> first | (simp [dcmp] at e; done) | skip
  have e' : some (D.bl (!decide (dx = .non))) = some z := by
    rw [← e]; cases dx <;> rfl
  cases e'
  refine ⟨ay.non, ?_⟩
  rw [← ax.isN]
  exact give0 S q (.bl _)
theorem un_negD : UnR X (unaryOp .USub) (pr1 Γ fun x => match x with | .int i => some (.int (-i)) | _ => none) := by
  refine UnR.imp un_neg fun x H Q h => ?_
  obtain ⟨G, dx, z, S, ax, e, q⟩ := h
  cases dx <;> first | (simp at e; done) | skip
  cases e
  exact ⟨_, ax.int, give0 S q (.int _)⟩

/-! ### subscripts -/
theorem atI_rep {G : Hp} {xs : List D} {vs : List V} {i : Int} {x : D} (r : RepL Γ G xs vs) (e : atI xs i = some x) : ∃ v, atI vs i = some v ∧ Rep Γ G x v := by
  unfold atI at e ⊢
  rw [r.length]
  cases q : ixN xs.length i with
  | none => rw [q] at e; cases e
  | some j =>
    rw [q] at e
    exact r.get e
theorem ix_D (hK : X.K = Γ.K) (hu : X.A.units + 1 < cLine) : IxR X (pr2 Γ ditem) := by
  refine IxR.imp (IxR.or ix_seq (ix_dict hu)) fun x y H Q h => ?_
  obtain ⟨G, dx, dy, z, S, ax, ay, e, q⟩ := h
  by_cases hd : ∃ kvs, dx = .dct kvs
  · obtain ⟨kvs, rfl⟩ := hd
    have e : (if (keyK dy).isSome then getK kvs dy else none) = some z := e
    by_cases hk : (keyK dy).isSome = true
    · rw [if_pos hk] at e
      obtain ⟨a, o, rfl, h1, h2, h3⟩ := dget_of S hk ay ax
      obtain ⟨v, rfl, rv⟩ := h3 z e
      exact .inr ⟨a, v, rfl, h1, give0 S q rv⟩
    · rw [if_neg hk] at e; cases e
  refine .inl ?_
  cases dx <;> first | exact absurd ⟨_, rfl⟩ hd | skip
  all_goals (cases dy <;> first | (simp [ditem] at e; done) | skip)
  · rename_i s i
    simp only [ditem] at e
    split at e
    · rename_i hz
      cases e2 : atI s i with
      | none => rw [e2] at e; cases e
      | some c =>
        rw [e2] at e
        cases e
        refine .inr (.inr ⟨sv s, i, c, ax.str, ay.int, by rw [hsz]; simpa [Str.length, sv] using hz, by simpa [sv] using e2, ?_⟩)
        exact give0 S q (.str [c])
    · cases e
  · rename_i xs i
    obtain ⟨a, vs, rfl, ha, r⟩ := ax.tup
    obtain ⟨v, hv, rv⟩ := atI_rep r e
    exact .inr (.inl ⟨a, vs, i, v, rfl, ay.int, by rw [hK]; exact Same.sqT S ha, hv, give0 S q rv⟩)
  · rename_i xs i
    obtain ⟨a, vs, rfl, ha, r⟩ := ax.isLst S
    obtain ⟨v, hv, rv⟩ := atI_rep r e
    exact .inl ⟨a, vs, i, v, rfl, ay.int, .inl ha, hv, give0 S q rv⟩

/-! ### slices -/
def dsl (x : D) (lo hi : Option Int) : Option D := match x with
  | .lst xs => some (.lst (cutD xs lo hi))
  | .tup xs => some (.tup (cutD xs lo hi))
  | _ => none
def prS (Γ : Env) : V → Option Int → Option Int → Hp → VK → Prop := fun x lo hi H Q => ∃ G dx z, Same G H ∧ RepA Γ G H dx x ∧ dsl dx lo hi = some z ∧ ∀ v H', Same H H' → Rep Γ (grow G H H') z v → Q v H'
theorem RepL.drop {G : Hp} : ∀ {xs : List D} {vs : List V} (n : Nat), RepL Γ G xs vs → RepL Γ G (xs.drop n) (vs.drop n)
  | _, _, 0, r => r
  | _, _, _ + 1, .nil => .nil
  | _, _, n + 1, .cons _ r => RepL.drop n r
theorem RepL.take {G : Hp} : ∀ {xs : List D} {vs : List V} (n : Nat), RepL Γ G xs vs → RepL Γ G (xs.take n) (vs.take n)
  | _, _, 0, _ => .nil
  | _, _, _ + 1, .nil => .nil
  | _, _, n + 1, .cons h r => .cons h (RepL.take n r)
theorem cut_rep {G : Hp} {xs : List D} {vs : List V} (lo hi : Option Int) (r : RepL Γ G xs vs) : RepL Γ G (cutD xs lo hi) (cutV vs lo hi) := by
  unfold cutD cutV
  rw [r.length]
  exact (r.drop _).take _
theorem SlR.imp {r r' : V → Option Int → Option Int → Hp → VK → Prop} (h : SlR X r) (k : ∀ x lo hi H Q, r' x lo hi H Q → r x lo hi H Q) : SlR X r' := fun pins s σ H x v vl vu lo hi sl Q I rx hs pl pu q => h pins s σ H x v vl vu lo hi sl Q I rx hs pl pu (k x lo hi H Q q)
theorem cut_all {xs : List D} {lo hi : Option Int} (h : HT.sIx xs.length 0 lo = 0 ∧ HT.sIx xs.length xs.length hi = xs.length) : cutD xs lo hi = xs := by
  unfold cutD
  rw [h.1, h.2]
  simp
theorem sl_D (hK : X.K = Γ.K) : SlR X (prS Γ) := by
  refine SlR.imp (SlR.or sl_list sl_tupA) fun x lo hi H Q h => ?_
  obtain ⟨G, dx, z, S, ax, e, q⟩ := h
  cases dx <;> first | (simp [dsl] at e; done) | skip
  · rename_i xs
    cases e
    obtain ⟨a, vs, rfl, ha, r⟩ := ax.tup
    refine .inr ⟨a, vs, rfl, by rw [hK]; exact Same.sqT S ha, fun hw => ?_, fun _ p hp => giveT S q (cut_rep lo hi r) hp⟩
    rw [r.length] at hw
    rw [cut_all hw] at q
    exact give0 S q (.tup ha r)
  · rename_i xs
    cases e
    obtain ⟨a, vs, rfl, ha, r⟩ := ax.isLst S
    exact .inl ⟨a, vs, rfl, .inl ha, fun p hp => giveL S q (cut_rep lo hi r) hp⟩
end
end Ip

set_option Elab.async false
set_option linter.all false
set_option maxRecDepth 100000
set_option maxHeartbeats 2000000
/-! IpOp3: calls of the built-in functions. -/
namespace Ip
open PySem PySem.Spec PyProof.Rows L2
section
variable {X : Cx} {Γ : Env}
theorem RepAs.one {G H : Hp} {d : D} {vs : List V} (r : RepAs Γ G H [d] vs) : ∃ v, vs = [v] ∧ RepA Γ G H d v := by
  cases r with
  | cons h t => cases t; exact ⟨_, rfl, h⟩
theorem RepAs.two {G H : Hp} {d e : D} {vs : List V} (r : RepAs Γ G H [d, e] vs) : ∃ v u, vs = [v, u] ∧ RepA Γ G H d v ∧ RepA Γ G H e u := by
  cases r with
  | cons h t =>
    obtain ⟨u, rfl, h2⟩ := t.one
    exact ⟨_, u, rfl, h, h2⟩
theorem RepL.ints {G : Hp} : ∀ {xs : List D} {vs : List V} {ns : List Int}, RepL Γ G xs vs → dints xs = some ns → vs = ns.map V.int
  | _, _, _, .nil, e => by cases e; rfl
  | x :: xs, _, ns, .cons h r, e => by
    cases x <;> first | (simp [dints] at e; done) | skip
    simp only [dints] at e
    cases q : dints xs with
    | none => rw [q] at e; cases e
    | some ms =>
      rw [q] at e
      cases e
      cases h
      rw [RepL.ints r q]
      rfl
theorem RepL.bools {G : Hp} : ∀ {xs : List D} {vs : List V} {ns : List Bool}, RepL Γ G xs vs → dbools xs = some ns → vs = ns.map V.bl
  | _, _, _, .nil, e => by cases e; rfl
  | x :: xs, _, ns, .cons h r, e => by
    cases x <;> first | (simp [dbools] at e; done) | skip
    simp only [dbools] at e
    cases q : dbools xs with
    | none => rw [q] at e; cases e
    | some ms =>
      rw [q] at e
      cases e
      cases h
      rw [RepL.bools r q]
      rfl
theorem kitsAll (K : PySem.W.Frag) : (tys.all fun m => tys.all fun n => PySem.W.kitOne K (.type m) (.type n) == some (m == n || (m == "bool" && n == "int"))) = true := by kernel_rfl
theorem kits {K : PySem.W.Frag} {m n : String} (hm : m ∈ tys) (hn : n ∈ tys) : PySem.W.kitOne K (.type m) (.type n) = some (m == n || (m == "bool" && n == "int")) := by
  have h := List.all_eq_true.mp (kitsAll K) m hm
  have h2 := List.all_eq_true.mp h n hn
  simpa using h2
theorem RepA.tyx {G H : Hp} (S : Same G H) {x : D} {v : V} {m : String} (r : RepA Γ G H x v) (e : tyName x = some m) : TyX Γ.K H v (.type m) ∧ m ∈ tys := by
  cases r with
  | lst h _ => cases e; exact ⟨.base (.lst h), by simp [tys]⟩
  | fix r =>
    cases r with
    | non => cases e; exact ⟨.base .non, by simp [tys]⟩
    | bl b => cases e; exact ⟨.base (.bl b), by simp [tys]⟩
    | int i => cases e; exact ⟨.base (.int i), by simp [tys]⟩
    | str i => cases e; exact ⟨.base (.str _), by simp [tys]⟩
    | tup h _ =>
      cases e
      refine ⟨?_, by simp [tys]⟩
      rcases Same.sqT S h with (h | ⟨o, h⟩) | ⟨o, _, _, h1, h2, _⟩
      · exact .base (.tup h)
      · exact .fTuple h
      · exact .kTuple h1 h2
    | lst h _ =>
      cases e
      refine ⟨?_, by simp [tys]⟩
      rcases Same.rd S h with h | ⟨o, h⟩
      · exact .base (.lst h)
      · exact .base (.frz h)
    | rng _ => cases e
    | glo _ _ => cases e
    | ty _ => cases e
    | exc _ _ _ _ => cases e
    | excF _ _ _ _ _ _ => cases e
    | dctK h _ =>
      cases e
      refine ⟨?_, by simp [tys]⟩
      rcases Same.rd S h with h | ⟨o, h⟩
      · exact .base (.dK h)
      · exact .fDict h
theorem cr_isiD (hK : X.K = Γ.K) : CallR X (.builtin "isinstance") (prL Γ fun ds => match ds with
    | [x, .ty n] => if tys.contains n then (tyName x).map fun m => D.bl (m == n || (m == "bool" && n == "int")) else none
    | _ => none) := by
  refine CallR.imp call_isi fun xs H Q h => ?_
  obtain ⟨G, ds, z, S, as, e, q⟩ := h
  dsimp only at e
  split at e
  · rename_i x n
    obtain ⟨v, u, rfl, a1, a2⟩ := as.two
    split at e
    · rename_i hn
      cases e2 : tyName x with
      | none => rw [e2] at e; cases e
      | some m =>
        rw [e2] at e
        cases e
        obtain ⟨t1, t2⟩ := a1.tyx S e2
        rw [a2.ty]
        exact ⟨v, .ty n, _, _, _, rfl, .ty n, by rw [hK]; exact t1, kits t2 (by simpa using hn), give0 S q (.bl _)⟩
    · cases e
  · cases e
/-! ### numbers -/
theorem cr_absD : CallR X (.builtin "abs") (prL Γ (dfn (fun _ _ => false) .abs)) := by
  refine CallR.imp call_abs fun xs H Q h => ?_
  obtain ⟨G, ds, z, S, as, e, q⟩ := h
  cases ds with
  | nil => simp [dfn] at e
  | cons d ds =>
    cases ds with
    | cons _ _ => simp [dfn] at e
    | nil =>
      obtain ⟨v, rfl, a⟩ := as.one
      cases d <;> first | (simp [dfn] at e; done) | skip
      rename_i i
      cases e
      exact ⟨i, by rw [a.int], give0 S q (.int _)⟩
theorem cr_intD : CallR X (.type "int") (prL Γ (dfn (fun _ _ => false) .int)) := by
  refine CallR.imp call_int1 fun xs H Q h => ?_
  obtain ⟨G, ds, z, S, as, e, q⟩ := h
  cases ds with
  | nil => simp [dfn] at e
  | cons d ds =>
    cases ds with
    | cons _ _ => simp [dfn] at e
    | nil =>
      obtain ⟨v, rfl, a⟩ := as.one
      cases d <;> first | (simp [dfn] at e; done) | skip
      · rename_i b
        cases e
        exact .inr ⟨b, by rw [a.bl], give0 S q (by cases b <;> exact .int _)⟩
      · rename_i i
        cases e
        exact .inl ⟨i, by rw [a.int], give0 S q (.int _)⟩
theorem fold_min : ∀ (ns : List Int) (n : Int), ns.foldl min n ∈ n :: ns ∧ ∀ y ∈ n :: ns, ns.foldl min n ≤ y
  | [], n => ⟨by simp, fun y hy => by simp at hy; subst hy; exact Int.le_refl _⟩
  | m :: ns, n => by
    obtain ⟨h1, h2⟩ := fold_min ns (min n m)
    simp only [List.foldl_cons]
    have hm : min n m = n ∨ min n m = m := by omega
    refine ⟨?_, fun y hy => ?_⟩
    · rcases List.mem_cons.mp h1 with h | h
      · rw [h]; rcases hm with q | q <;> rw [q] <;> simp
      · simp [h]
    · have h3 := h2 (min n m) (by simp)
      rcases List.mem_cons.mp hy with rfl | hy
      · omega
      · rcases List.mem_cons.mp hy with rfl | hy
        · omega
        · exact h2 y (by simp [hy])
theorem fold_max : ∀ (ns : List Int) (n : Int), ns.foldl max n ∈ n :: ns ∧ ∀ y ∈ n :: ns, y ≤ ns.foldl max n
  | [], n => ⟨by simp, fun y hy => by simp at hy; subst hy; exact Int.le_refl _⟩
  | m :: ns, n => by
    obtain ⟨h1, h2⟩ := fold_max ns (max n m)
    simp only [List.foldl_cons]
    have hm : max n m = n ∨ max n m = m := by omega
    refine ⟨?_, fun y hy => ?_⟩
    · rcases List.mem_cons.mp h1 with h | h
      · rw [h]; rcases hm with q | q <;> rw [q] <;> simp
      · simp [h]
    · have h3 := h2 (max n m) (by simp)
      rcases List.mem_cons.mp hy with rfl | hy
      · omega
      · rcases List.mem_cons.mp hy with rfl | hy
        · omega
        · exact h2 y (by simp [hy])
theorem cr_minD (hc : X.calm = true) : CallR X (.builtin "min") (prL Γ (dfn (fun _ _ => false) .min)) := by
  refine CallR.imp (CallR.or (cr_min hc) (call_min2 hc)) fun xs H Q h => ?_
  obtain ⟨G, ds, z, S, as, e, q⟩ := h
  rcases ds with _ | ⟨d, _ | ⟨d2, _ | ⟨d3, ds⟩⟩⟩
  · simp [dfn] at e
  · obtain ⟨v, rfl, a⟩ := as.one
    cases d <;> first | (simp [dfn] at e; done) | skip
    rename_i xs
    simp only [dfn, dmin] at e
    split at e
    · rename_i n ns hn
      cases e
      obtain ⟨p, vs, rfl, hp, r⟩ := a.isLst S
      rw [r.ints hn] at hp
      refine .inl ⟨p, n :: ns, rfl, .inl hp, by simp, fun m hm hl => ?_⟩
      obtain ⟨h1, h2⟩ := fold_min ns n
      have : m = ns.foldl min n := Int.le_antisymm (hl _ h1) (h2 _ hm)
      subst this
      exact give0 S q (.int _)
    · cases e
  · obtain ⟨v, u, rfl, a, b⟩ := as.two
    cases d <;> cases d2 <;> first | (simp [dfn] at e; done) | skip
    rename_i i j
    cases e
    exact .inr ⟨i, j, by rw [a.int, b.int], give0 S q (by exact .int _)⟩
  · simp [dfn] at e
theorem cr_maxD (hc : X.calm = true) : CallR X (.builtin "max") (prL Γ (dfn (fun _ _ => false) .max)) := by
  refine CallR.imp (CallR.or (cr_max hc) (call_max2 hc)) fun xs H Q h => ?_
  obtain ⟨G, ds, z, S, as, e, q⟩ := h
  rcases ds with _ | ⟨d, _ | ⟨d2, _ | ⟨d3, ds⟩⟩⟩
  · simp [dfn] at e
  · obtain ⟨v, rfl, a⟩ := as.one
    cases d <;> first | (simp [dfn] at e; done) | skip
    rename_i xs
    simp only [dfn, dmax] at e
    split at e
    · rename_i n ns hn
      cases e
      obtain ⟨p, vs, rfl, hp, r⟩ := a.isLst S
      rw [r.ints hn] at hp
      refine .inl ⟨p, n :: ns, rfl, .inl hp, by simp, fun m hm hl => ?_⟩
      obtain ⟨h1, h2⟩ := fold_max ns n
      have : m = ns.foldl max n := Int.le_antisymm (h2 _ hm) (hl _ h1)
      subst this
      exact give0 S q (.int _)
    · cases e
  · obtain ⟨v, u, rfl, a, b⟩ := as.two
    cases d <;> cases d2 <;> first | (simp [dfn] at e; done) | skip
    rename_i i j
    cases e
    exact .inr ⟨i, j, by rw [a.int, b.int], give0 S q (by exact .int _)⟩
  · simp [dfn] at e
theorem cr_sumD (hc : X.calm = true) : CallR X (.builtin "sum") (prL Γ (dfn (fun _ _ => false) .sum)) := by
  refine CallR.imp (cr_sum hc) fun xs H Q h => ?_
  obtain ⟨G, ds, z, S, as, e, q⟩ := h
  rcases ds with _ | ⟨d, _ | ⟨d2, ds⟩⟩
  · simp [dfn] at e
  · obtain ⟨v, rfl, a⟩ := as.one
    cases d <;> first | (simp [dfn] at e; done) | skip
    rename_i xs
    simp only [dfn] at e
    cases hn : dints xs with
    | none => rw [hn] at e; cases e
    | some ns =>
      rw [hn] at e
      cases e
      obtain ⟨p, vs, rfl, hp, r⟩ := a.isLst S
      rw [r.ints hn] at hp
      exact ⟨p, ns, rfl, .inl hp, give0 S q (.int _)⟩
  · simp [dfn] at e
theorem cr_anyD (hc : X.calm = true) : CallR X (.builtin "any") (prL Γ (dfn (fun _ _ => false) .any)) := by
  refine CallR.imp (cr_any hc) fun xs H Q h => ?_
  obtain ⟨G, ds, z, S, as, e, q⟩ := h
  rcases ds with _ | ⟨d, _ | ⟨d2, ds⟩⟩
  · simp [dfn] at e
  · obtain ⟨v, rfl, a⟩ := as.one
    cases d <;> first | (simp [dfn] at e; done) | skip
    rename_i xs
    simp only [dfn] at e
    cases hn : dbools xs with
    | none => rw [hn] at e; cases e
    | some ns =>
      rw [hn] at e
      cases e
      obtain ⟨p, vs, rfl, hp, r⟩ := a.isLst S
      rw [r.bools hn] at hp
      exact ⟨p, ns, rfl, .inl hp, give0 S q (.bl _)⟩
  · simp [dfn] at e
theorem cr_allD (hc : X.calm = true) : CallR X (.builtin "all") (prL Γ (dfn (fun _ _ => false) .all)) := by
  refine CallR.imp (cr_all hc) fun xs H Q h => ?_
  obtain ⟨G, ds, z, S, as, e, q⟩ := h
  rcases ds with _ | ⟨d, _ | ⟨d2, ds⟩⟩
  · simp [dfn] at e
  · obtain ⟨v, rfl, a⟩ := as.one
    cases d <;> first | (simp [dfn] at e; done) | skip
    rename_i xs
    simp only [dfn] at e
    cases hn : dbools xs with
    | none => rw [hn] at e; cases e
    | some ns =>
      rw [hn] at e
      cases e
      obtain ⟨p, vs, rfl, hp, r⟩ := a.isLst S
      rw [r.bools hn] at hp
      exact ⟨p, ns, rfl, .inl hp, give0 S q (.bl _)⟩
  · simp [dfn] at e
theorem call_lenD2 : CallR X (.builtin "len") (fun xs H Q => ∃ a kvs, xs = [.ref a] ∧ Rd H a (.dK kvs) ∧ Q (.int kvs.length) H) := by
  intro pins s σ H xs us Q I r h
  obtain ⟨a, kvs, rfl, hr, q⟩ := h
  obtain ⟨u, rfl, ru⟩ := vals1 r
  cases ru
  exact d_len I hr fun t s' I' => ⟨.int _, H, I', ⟨t, rfl⟩, q⟩
theorem cr_lenD (hK : X.K = Γ.K) : CallR X (.builtin "len") (prL Γ (dfn (fun _ _ => false) .len)) := by
  refine CallR.imp (CallR.or (CallR.or call_len_seq call_len_str) call_lenD2) fun xs H Q h => ?_
  obtain ⟨G, ds, z, S, as, e, q⟩ := h
  rcases ds with _ | ⟨d, _ | ⟨d2, ds⟩⟩
  · simp [dfn] at e
  · obtain ⟨v, rfl, a⟩ := as.one
    simp only [dfn] at e
    cases d <;> first | (simp [dlen] at e; done) | skip
    · rename_i x
      simp only [dlen] at e
      split at e
      · rename_i hz
        cases e
        refine .inl (.inr ⟨sv x, by rw [a.str], by rw [hsz]; simpa [Str.length, sv] using hz, ?_⟩)
        have : ((sv x).length : Int) = (x.length : Int) := by simp [Str.length, sv]
        rw [this]
        exact give0 S q (.int _)
      · cases e
    · rename_i xs
      cases e
      obtain ⟨p, vs, rfl, hp, r⟩ := a.tup
      refine .inl (.inl ⟨p, vs, rfl, .inr (by rw [hK]; exact Same.sqT S hp), ?_⟩)
      rw [r.length]
      exact give0 S q (.int _)
    · rename_i xs
      cases e
      obtain ⟨p, vs, rfl, hp, r⟩ := a.isLst S
      refine .inl (.inl ⟨p, vs, rfl, .inl (.inl hp), ?_⟩)
      rw [r.length]
      exact give0 S q (.int _)
    · rename_i kvs
      cases e
      obtain ⟨p, ks, rfl, hp, r⟩ := a.isDct S
      refine .inr ⟨p, ks, rfl, hp, ?_⟩
      rw [r.length]
      exact give0 S q (.int _)
  · simp [dfn] at e
theorem cr_listD (hK : X.K = Γ.K) : CallR X (.type "list") (prL Γ (dfn (fun _ _ => false) .list)) := by
  refine CallR.imp call_list_of fun xs H Q h => ?_
  obtain ⟨G, ds, z, S, as, e, q⟩ := h
  rcases ds with _ | ⟨d, _ | ⟨d2, ds⟩⟩
  · simp [dfn] at e
  · obtain ⟨v, rfl, a⟩ := as.one
    cases d <;> first | (simp [dfn] at e; done) | skip
    · rename_i xs
      cases e
      obtain ⟨p, vs, rfl, hp, r⟩ := a.tup
      exact ⟨p, vs, rfl, .inr (by rw [hK]; exact Same.sqT S hp), fun l hl => giveL S q r hl⟩
    · rename_i xs
      cases e
      obtain ⟨p, vs, rfl, hp, r⟩ := a.isLst S
      exact ⟨p, vs, rfl, .inl (.inl hp), fun l hl => giveL S q r hl⟩
  · simp [dfn] at e
theorem cr_tupleD (hK : X.K = Γ.K) : CallR X (.type "tuple") (prL Γ (dfn (fun _ _ => false) .tuple)) := by
  refine CallR.imp call_tuple_of fun xs H Q h => ?_
  obtain ⟨G, ds, z, S, as, e, q⟩ := h
  rcases ds with _ | ⟨d, _ | ⟨d2, ds⟩⟩
  · simp [dfn] at e
  · obtain ⟨v, rfl, a⟩ := as.one
    cases d <;> first | (simp [dfn] at e; done) | skip
    · rename_i xs
      cases e
      obtain ⟨p, vs, rfl, hp, r⟩ := a.tup
      exact ⟨p, vs, rfl, .inr ⟨by rw [hK]; exact Same.sqT S hp, give0 S q (.tup hp r)⟩⟩
    · rename_i xs
      cases e
      obtain ⟨p, vs, rfl, hp, r⟩ := a.isLst S
      exact ⟨p, vs, rfl, .inl ⟨.inl hp, fun l hl => giveT S q r hl⟩⟩
  · simp [dfn] at e
theorem cr_range1 : CallR X (.type "range") (fun vs H Q => ∃ j, vs = [V.int j] ∧ ∀ p, H p = none → Q (.ref p) (upd H p (.rng 0 j))) := by
  intro pins s σ H vs us Q I r h
  obtain ⟨j, rfl, q⟩ := h
  obtain ⟨u2, rfl, rj⟩ := vals1 r
  obtain ⟨u, rfl⟩ := rj
  refine call_range_1 ⟨.ref s.heap.objs.size, upd H s.heap.objs.size (.rng 0 j), I.laid (t' := s.toks + 2) (fun b o e => Heap.get?_push_of_some _ e) (Nat.le_refl _) ?_, rfl, q _ (I.hok.fresh (Nat.le_refl _))⟩
  exact ⟨_, _, _, Heap.get?_push_size _ rfl⟩
theorem cr_rangeD : CallR X (.type "range") (prL Γ (dfn (fun _ _ => false) .range)) := by
  refine CallR.imp (CallR.or cr_range1 cr_range2) fun xs H Q h => ?_
  obtain ⟨G, ds, z, S, as, e, q⟩ := h
  rcases ds with _ | ⟨d, _ | ⟨d2, _ | ⟨d3, ds⟩⟩⟩
  · simp [dfn] at e
  · obtain ⟨v, rfl, a⟩ := as.one
    cases d <;> first | (simp [dfn] at e; done) | skip
    cases e
    exact .inl ⟨_, by rw [a.int], fun p hp => giveR S q hp⟩
  · obtain ⟨v, u, rfl, a, b⟩ := as.two
    cases d <;> cases d2 <;> first | (simp [dfn] at e; done) | skip
    cases e
    exact .inr ⟨_, _, by rw [a.int, b.int], fun p hp => giveR S q hp⟩
  · simp [dfn] at e

/-! ### sorted -/
def RvD (Γ : Env) (G : Hp) : Value → D → Prop := fun u d => ∃ v, RelV v u ∧ Rep Γ G d v
theorem each_of {G : Hp} : ∀ {xs : List D} {vs : List V} {us : List Value}, RepL Γ G xs vs → Vals vs us → PySem.W.EachIs (RvD Γ G) us xs
  | _, _, _, .nil, r => by cases r; exact .nil
  | _, _, _, .cons h t, r => by
    cases r with
    | cons r1 r2 => exact .cons ⟨_, r1, h⟩ (each_of t r2)
theorem of_each {G : Hp} : ∀ {us : List Value} {xs : List D}, PySem.W.EachIs (RvD Γ G) us xs → ∃ vs, Vals vs us ∧ RepL Γ G xs vs
  | _, _, .nil => ⟨[], .nil, .nil⟩
  | _, _, .cons ⟨v, h1, h2⟩ t => by
    obtain ⟨vs, h3, h4⟩ := of_each t
    exact ⟨v :: vs, .cons h1 h3, .cons h2 h4⟩
theorem dsorted_some {xs ys : List D} (h : dsorted xs = some ys) : xs.all shp = true ∧ allAlk xs = true ∧ (xs.all neTup = true ∨ xs.all noTup = true) ∧ xs.length ≤ lim ∧ ys = sortD xs := by
  unfold dsorted at h
  split at h
  · rename_i hc
    cases h
    simp only [Bool.and_eq_true, Bool.or_eq_true, decide_eq_true_eq] at hc
    exact ⟨hc.1.1.1, hc.1.1.2, hc.1.2, hc.2, rfl⟩
  · cases h
theorem cr_sortedD (hK : X.K = Γ.K) (hu : X.A.units + 66 < cLine) : CallR X (.builtin "sorted") (prL Γ (dfn (fun _ _ => false) .sorted)) := by
  intro pins s σ H vs us Q I r h
  obtain ⟨G, ds, z, S, as, e, q⟩ := h
  rcases ds with _ | ⟨d, _ | ⟨d2, ds⟩⟩
  · simp [dfn] at e
  · obtain ⟨v, rfl, a⟩ := as.one
    cases d <;> first | (simp [dfn] at e; done) | skip
    rename_i xs
    simp only [dfn] at e
    cases e2 : dsorted xs with
    | none => rw [e2] at e; cases e
    | some ys =>
      rw [e2] at e
      cases e
      obtain ⟨h1, h2, h3, h4, rfl⟩ := dsorted_some e2
      obtain ⟨p, ws, rfl, hp, rr⟩ := a.isLst S
      obtain ⟨u, rfl, ru⟩ := vals1 r
      cases ru
      obtain ⟨its, rv, pl, hz⟩ := I.list (.inl hp)
      have eR := each_of rr rv
      have shpOf : ∀ x ∈ xs, shp x = true := List.all_eq_true.mp h1
      have alkOf : ∀ x ∈ xs, ∀ y ∈ xs, alk x y = true := fun x hx y hy => List.all_eq_true.mp (List.all_eq_true.mp h2 x hx) y hy
      have er : PySem.W.EachIs (fun v b => ∃ as, Reads s.heap v (toP b) as) its xs := by
        have e3 := PySem.W.each_mem eR
        refine e3.mono fun u d ⟨⟨v, r1, r2⟩, hd⟩ => ?_
        exact Dp.reads I (toP d) v u (by rw [hK]; exact Rep.dp S (shp_ok (shpOf d hd)).1 r2) r1
      have hal : PySem.W.AllAlike (xs.map toP) := by
        intro d hd d' hd'
        obtain ⟨x, hx, rfl⟩ := List.mem_map.mp hd
        obtain ⟨y, hy, rfl⟩ := List.mem_map.mp hd'
        exact alk_pln x y (alkOf x hx y hy)
      have hk : PySem.W.Sortable (xs.map toP) := by
        rcases h3 with h3 | h3
        · refine .inl fun d hd => ?_
          obtain ⟨x, hx, rfl⟩ := List.mem_map.mp hd
          have := List.all_eq_true.mp h3 x hx
          cases x <;> first | (simp [neTup] at this; done) | skip
          rename_i ws
          cases ws with
          | nil => simp [neTup] at this
          | cons w ws => exact ⟨toP w, toPL ws, by simp [toP, toPL]⟩
        · refine .inr fun d hd => ?_
          obtain ⟨x, hx, rfl⟩ := List.mem_map.mp hd
          have h5 := List.all_eq_true.mp h3 x hx
          have h6 := (shp_ok (shpOf x hx)).1
          cases x <;> first | (simp [noTup] at h5; done) | (simp [pln] at h6; done) | simp [toP]
      refine PySem.W.sorted_data (R := RvD Γ G) (enc := toP) pl.isList eR er hal hk (by rw [hsz]; exact h4) (fun b hb => ?_) fun out hlen eo => ?_
      · have h7 := shpOf b hb
        simp only [shp, Bool.and_eq_true, decide_eq_true_eq] at h7
        rw [toP_dep]
        omega
      · have ec : xs.mergeSort (PySem.W.dataLe false toP) = sortD xs := by
          unfold sortD
          refine PySem.W.sort_congr fun x hx y hy => ?_
          rw [PySem.W.dataLe_eq]
          simp only [cond_false]
          rw [ltv_ok y x (shp_ok (shpOf y hy)).1 (shp_ok (shpOf x hx)).1 (alkOf y hy x hx)]
        rw [ec] at eo
        obtain ⟨ws', rv', rr'⟩ := of_each eo
        obtain ⟨ep, he'⟩ := PyProof.Rows.sortedAll_at s.heap its out.toArray
        have hl' : ws'.length ≤ sizeLine := by
          rw [rv'.length, hlen, hsz]; exact h4
        exact ⟨.ref _, upd H (s.heap.objs.size + 1) (.lst ws'), I.laid (t' := s.toks) (fun _ _ => PyProof.Rows.sortedAll_old) (Nat.le_succ _) ⟨hl', out, ep, rv', he'⟩, rfl, giveL S q rr' (I.hok.fresh (Nat.le_succ _))⟩
  · simp [dfn] at e
end
end Ip

set_option Elab.async false
set_option linter.all false
set_option maxRecDepth 100000
set_option maxHeartbeats 2000000
/-! IpOp4: repr; dicts made of pairs, sorted, listed. -/
namespace Ip
open PySem PySem.Spec PyProof.Rows L2
section
variable {X : Cx} {Γ : Env} {pins : List (Addr × Obj)} {σ : L2.St} {G H : Hp} {s : Shared}
def SysD (K : PySem.W.Frag) : Prop := ∃ (o : Obj) (es : Array DictEntry) (n : Nat), K.lookup sysModules = some o ∧ o.data = .dict es n
theorem reads_key {k : D} {key : Key} {u : Value} (h : keyK k = some key) (r : keyIs key u = true) : Reads s.heap u (toR k) [] := by
  cases k <;> first | (cases h; done) | skip
  · cases h
    obtain ⟨t, rfl⟩ := Value.isInt_shape r
    exact .int _ t
  · rename_i x
    cases h
    obtain ⟨t, rfl⟩ := Value.isStrOf_shape r
    exact .str _ t
theorem ne_sys (hs : SysD X.K) (I : Inv X pins σ H s) {a : Addr} {o : Obj} {vs : Array Value} {n : Nat} (ho : s.heap.get? a = some o) (hd : o.data = .seq vs n) : a ≠ sysModules := fun e => by
  obtain ⟨o2, es, n2, h1, h2⟩ := hs
  have := I.kIn _ _ h1
  rw [← e, ho] at this
  cases this
  rw [hd] at h2; cases h2
mutual
theorem Rep.reads (hK : X.K = Γ.K) (hs : SysD X.K) (I : Inv X pins σ H s) (S : Same G H) : ∀ {x : D} {v : V} {u : Value}, rok x = true → Rep Γ G x v → L2.RelV v u → ∃ as, Reads s.heap u (toR x) as ∧ ∀ b ∈ as, b ≠ sysModules
  | _, _, _, _, .non, r => by cases r; exact ⟨_, .none, fun b h => by simp at h⟩
  | _, _, _, _, .bl b, r => by cases r; exact ⟨_, .bool b, fun b h => by simp at h⟩
  | _, _, _, _, .int i, r => by obtain ⟨t, rfl⟩ := r; exact ⟨_, .int i t, fun b h => by simp at h⟩
  | _, _, _, _, .str x, r => by obtain ⟨t, rfl⟩ := r; exact ⟨_, .str _ t, fun b h => by simp at h⟩
  | _, _, _, h, .tup t r, e => by
    cases e
    obtain ⟨its, rv, ⟨o, ho, hc, n, hd⟩, _⟩ := I.tuple (show SqT X.K H _ _ by rw [hK]; exact Same.sqT S t)
    obtain ⟨as, hr, hn⟩ := RepL.reads hK hs I S (by simpa [rok] using h) r rv
    exact ⟨_, .tuple ho hc hd hr, hn⟩
  | _, _, _, h, .lst (a := a) t r, e => by
    cases e
    obtain ⟨its, rv, ⟨o, n, ho, hc, _, hd⟩, _⟩ := I.list (show SqL X.K H a _ from .inl (Same.rd S t))
    obtain ⟨as, hr, hn⟩ := RepL.reads hK hs I S (by simpa [rok] using h) r rv
    refine ⟨_, .list ho hc hd hr, fun b hb => ?_⟩
    rcases List.mem_cons.mp hb with rfl | hb
    · exact ne_sys hs I ho hd
    · exact hn b hb
  | _, _, _, h, .rng _, _ => by simp [rok] at h
  | _, _, _, h, .glo _ _, _ => by simp [rok] at h
  | _, _, _, h, .ty _, _ => by simp [rok] at h
  | _, _, _, h, .exc _ _ _ _, _ => by simp [rok] at h
  | _, _, _, h, .excF _ _ _ _ _ _, _ => by simp [rok] at h
  | _, _, _, h, .dctK (a := a) t r, e => by
    cases e
    obtain ⟨z, y, vs, rk, o, es, ep, ho, ex, hd, hk, hp, _⟩ : ObjOk X.prog X.w H s.heap a (.dK _) := (Same.rd S t).ok I.hok
    obtain ⟨as, bs, r1, r2, hn⟩ := RepP.reads hK hs I S (by simpa [rok] using h) r rk hp
    refine ⟨_, .dict ho ex.1 hd r1 r2, fun b hb => ?_⟩
    rcases List.mem_append.mp hb with hb | hb
    · rcases List.mem_cons.mp hb with rfl | hb
      · exact beq_eq_false_iff_ne.mp y
      · exact hn b (.inl hb)
    · exact hn b (.inr hb)
theorem RepL.reads (hK : X.K = Γ.K) (hs : SysD X.K) (I : Inv X pins σ H s) (S : Same G H) : ∀ {xs : List D} {vs : List V} {us : List Value}, rokL xs = true → RepL Γ G xs vs → Vals vs us → ∃ as, ReadsAll s.heap us (toRL xs) as ∧ ∀ b ∈ as, b ≠ sysModules
  | _, _, _, _, .nil, r => by cases r; exact ⟨_, .nil, fun b h => by simp at h⟩
  | _, _, _, h, .cons a t, r => by
    cases r with
    | cons r1 r2 =>
      simp only [rokL, Bool.and_eq_true] at h
      obtain ⟨as, h1, n1⟩ := Rep.reads hK hs I S h.1 a r1
      obtain ⟨bs, h2, n2⟩ := RepL.reads hK hs I S h.2 t r2
      exact ⟨_, .cons h1 h2, fun b hb => (List.mem_append.mp hb).elim (n1 b) (n2 b)⟩
theorem RepP.reads (hK : X.K = Γ.K) (hs : SysD X.K) (I : Inv X pins σ H s) (S : Same G H) : ∀ {kvs : List (D × D)} {ks : List (Key × V)} {vs : List (Key × Value)} {es : List DictEntry}, rokP kvs = true → RepP Γ G kvs ks → KV ks vs → Pairs (mixKind X.prog X.w) es vs →
    ∃ as bs, ReadsAll s.heap (es.map (·.key)) ((toRP kvs).map (·.1)) as ∧ ReadsAll s.heap (es.map (·.val)) ((toRP kvs).map (·.2)) bs ∧ ∀ b, b ∈ as ∨ b ∈ bs → b ≠ sysModules
  | _, _, _, _, _, .nil, r, p => by
    cases r
    cases p
    exact ⟨_, _, .nil, .nil, fun b h => by simp at h⟩
  | _, _, _, _, h, .cons hk a t, r, p => by
    cases r with
    | cons r1 r2 =>
      cases p with
      | cons q1 q2 p2 =>
        simp only [rokP, Bool.and_eq_true] at h
        obtain ⟨e1, e2⟩ := r1
        rw [← q2] at e2
        obtain ⟨as, h1, n1⟩ := Rep.reads hK hs I S h.1.2 a e2
        obtain ⟨as2, bs2, h3, h4, n2⟩ := RepP.reads hK hs I S h.2 t r2 p2
        refine ⟨_, _, .cons (reads_key hk (by have z := q1; rw [← (show _ = _ from e1)] at z; exact z)) h3, .cons h1 h4, fun b hb => ?_⟩
        rcases hb with hb | hb
        · exact n2 b (.inl (by simpa using hb))
        · rcases List.mem_append.mp hb with hb | hb
          · exact n1 b hb
          · exact n2 b (.inr hb)
end
/-- repr(x) -/
theorem cr_reprD (hK : X.K = Γ.K) (hs : SysD X.K) (hg : X.A.guards = some []) (hu : X.A.units + 66 < cLine) : CallR X (.builtin "repr") (prL Γ (dfn (fun _ _ => false) .repr)) := by
  intro pins s σ H xs us Q I r h
  obtain ⟨G, ds, z, S, as, e, q⟩ := h
  rcases ds with _ | ⟨d, _ | ⟨d2, ds⟩⟩
  · simp [dfn] at e
  · obtain ⟨v, rfl, a⟩ := as.one
    simp only [dfn, drepr] at e
    split at e
    · rename_i hc
      cases e
      simp only [Bool.and_eq_true, decide_eq_true_eq] at hc
      obtain ⟨⟨⟨h1, h2⟩, h3⟩, h4⟩ := hc
      rw [← hsz] at h4
      have fin : ∀ {t : Tok} {h' : Heap} {tk : Tok}, (∀ b o, s.heap.get? b = some o → h'.get? b = some o) → EP X pins σ Q (.str (toR d).shown t) { s with heap := h', toks := tk } := fun {t h' tk} k => by
        refine ⟨.str (sv (toR d).shown.cps.toList), H, I.kept k, ⟨t, by unfold sv; simp⟩, give0 S q (.str _)⟩
      obtain ⟨u, rfl, rx⟩ := vals1 r
      obtain ⟨as2, rd, hn⟩ : ∃ as2, Reads s.heap u (toR d) as2 ∧ ∀ b ∈ as2, b ≠ sysModules := by
        cases a with
        | fix a => exact Rep.reads hK hs I S h1 a rx
        | lst t rl =>
          cases rx
          obtain ⟨its, rv, ⟨o, n, ho, hc, _, hd⟩, _⟩ := I.list (.inl (.inl t))
          obtain ⟨as, hr, hn⟩ := RepL.reads hK hs I S (by simpa [rok] using h1) rl rv
          refine ⟨_, .list ho hc hd hr, fun b hb => ?_⟩
          rcases List.mem_cons.mp hb with rfl | hb
          · exact ne_sys hs I ho hd
          · exact hn b hb
      have hsm : (toR d).hasDict = true → sysModules ∉ as2 := fun _ hm => hn _ hm rfl
      have kk : ∀ b o, s.heap.get? b = some o → s.heap.get? b = some o := fun _ _ e => e
      clear a
      generalize toR d = y at rd hsm h2 h3 h4 fin
      cases rd with
      | none => exact PySem.P.repr_of_none (fin kk)
      | bool b => exact PySem.P.repr_of_bool (fin kk)
      | int i t => exact PySem.P.repr_of_int (by simpa [PyData.showable] using h2) (fin kk)
      | str x t => exact PySem.P.repr_of_str (fin kk) h4
      | list e1 e2 e3 e4 => exact repr_of_reads' (.list e1 e2 e3 e4) h2 hsm hg (by omega) kk (fun h' u tk k => fin k) h4
      | tuple e1 e2 e3 e4 => exact repr_of_reads' (.tuple e1 e2 e3 e4) h2 hsm hg (by omega) kk (fun h' u tk k => fin k) h4
      | dict e1 e2 e3 e4 e5 => exact repr_of_reads' (.dict e1 e2 e3 e4 e5) h2 hsm hg (by omega) kk (fun h' u tk k => fin k) h4
    · cases e
  · simp [dfn] at e
/-! ### dicts of data -/
theorem RepP.any {k : D} {key : Key} (hk : keyK k = some key) : ∀ {kvs : List (D × D)} {ks : List (Key × V)}, RepP Γ G kvs ks → (ks.any fun kv => decide (kv.1 = key)) = kvs.any fun p => decide (p.1 = k)
  | _, _, .nil => rfl
  | (k0, w) :: r, (key0, v) :: rs, .cons h0 _ t => by
    rw [List.any_cons, List.any_cons, RepP.any hk t]
    congr 1
    by_cases q : k0 = k
    · subst q; rw [hk] at h0; cases h0; simp
    · have e2 : ¬ key0 = key := fun z => q (keyK_inj h0 (z ▸ hk))
      simp [q, e2]
theorem RepP.append : ∀ {a b : List (D × D)} {x y : List (Key × V)}, RepP Γ G a x → RepP Γ G b y → RepP Γ G (a ++ b) (x ++ y)
  | _, _, _, _, .nil, s => s
  | _, _, _, _, .cons h0 h t, s => .cons h0 h (RepP.append t s)
theorem RepP.repl {k y : D} {key : Key} {v : V} (hk : keyK k = some key) (ry : Rep Γ G y v) : ∀ {kvs : List (D × D)} {ks : List (Key × V)}, RepP Γ G kvs ks →
    RepP Γ G (kvs.map fun p => if p.1 = k then (p.1, y) else p) (ks.map fun kv => if kv.1 = key then (kv.1, v) else kv)
  | _, _, .nil => .nil
  | (k0, w0) :: r, (key0, v0) :: rs, .cons h0 hx t => by
    rw [List.map_cons, List.map_cons]
    by_cases q : k0 = k
    · have e : key0 = key := by subst q; rw [hk] at h0; cases h0; rfl
      simp only [q, e, if_true]
      exact .cons hk ry (RepP.repl hk ry t)
    · have e2 : ¬ key0 = key := fun z => q (keyK_inj h0 (z ▸ hk))
      simp only [q, e2, if_false]
      exact .cons h0 hx (RepP.repl hk ry t)
theorem RepP.set {k y : D} {key : Key} {v : V} (hk : keyK k = some key) (ry : Rep Γ G y v) {kvs : List (D × D)} {ks : List (Key × V)} (r : RepP Γ G kvs ks) : RepP Γ G (setK kvs k y) (putK ks key v) := by
  unfold setK putK
  rw [r.any hk]
  split
  · exact r.repl hk ry
  · exact r.append (.cons hk ry .nil)
theorem RepP.merge : ∀ {ps kvs : List (D × D)} {qs ks : List (Key × V)}, RepP Γ G ps qs → RepP Γ G kvs ks → RepP Γ G (mergeD kvs ps) (mergeK ks qs)
  | _, _, _, _, .nil, s => s
  | _ :: ps, kvs, _ :: qs, ks, .cons h0 h t, s => RepP.merge (ps := ps) (qs := qs) t (RepP.set h0 h s)
theorem RepL.vals : ∀ {kvs : List (D × D)} {ks : List (Key × V)}, RepP Γ G kvs ks → RepL Γ G (kvs.map (·.2)) (ks.map (·.2))
  | _, _, .nil => .nil
  | _, _, .cons _ h t => .cons h (RepL.vals t)
theorem keyRep {k : D} {key : Key} (hk : keyK k = some key) : Rep Γ G k (kV key) := by
  cases k <;> first | (cases hk; done) | skip
  · cases hk; exact .int _
  · cases hk; exact .str _
theorem RepL.keys : ∀ {kvs : List (D × D)} {ks : List (Key × V)}, RepP Γ G kvs ks → RepL Γ G (kvs.map (·.1)) (ks.map fun kv => kV kv.1)
  | _, _, .nil => .nil
  | _, _, .cons h _ t => .cons (keyRep h) (RepL.keys t)
theorem keyV' {k : D} {key : Key} {v : V} (hk : keyK k = some key) (r : Rep Γ G k v) : v = kV key := by
  cases k <;> first | (cases hk; done) | skip
  · cases hk; cases r; rfl
  · cases hk; cases r; rfl
/-- the pairs of a list -/
theorem pairsOf : ∀ {xs : List D} {ps : List (D × D)} {vs : List V}, isPairs xs = some ps → allKK ps = true → RepL Γ G xs vs → ∃ (as : List Addr) (qs : List (Key × V)), vs = as.map V.ref ∧ Paired (fun a kv => SqT Γ.K G a [kV kv.1, kv.2]) as qs ∧ RepP Γ G ps qs
  | [], _, _, e, _, .nil => by cases e; exact ⟨[], [], rfl, .nil, .nil⟩
  | x :: xs, ps, _, e, ha, .cons h t => by
    cases x <;> first | (cases e; done) | skip
    rename_i ys
    rcases ys with _ | ⟨k, _ | ⟨v, _ | ⟨z, ys⟩⟩⟩ <;> first | (cases e; done) | skip
    have e : (isPairs xs).map ((k, v) :: ·) = some ps := e
    cases e2 : isPairs xs with
    | none => rw [e2] at e; cases e
    | some pr =>
      rw [e2] at e
      cases e
      simp only [allKK, List.all_cons, Bool.and_eq_true] at ha
      obtain ⟨key, hk⟩ := Option.isSome_iff_exists.mp ha.1
      obtain ⟨as, qs, rfl, h1, h2⟩ := pairsOf e2 (by simpa [allKK] using ha.2) t
      cases h with
      | tup ht rl =>
        cases rl with
        | cons r1 rl =>
          cases rl with
          | cons r2 rl =>
            cases rl
            rw [keyV' hk r1] at ht
            exact ⟨_ :: as, (key, _) :: qs, rfl, .cons ht h1, .cons hk r2 h2⟩
theorem cr_dictD (hK : X.K = Γ.K) (hc : X.calm = true) : CallR X (.type "dict") (prL Γ (dfn (fun _ _ => false) .dict)) := by
  refine CallR.imp (call_dictP hc) fun xs H Q h => ?_
  obtain ⟨G, ds, z, S, as, e, q⟩ := h
  rcases ds with _ | ⟨d, _ | ⟨d2, ds⟩⟩
  · simp [dfn] at e
  · obtain ⟨v, rfl, a⟩ := as.one
    cases d <;> first | (simp [dfn] at e; done) | skip
    rename_i ys
    simp only [dfn, ddict] at e
    cases e2 : isPairs ys with
    | none => rw [e2] at e; cases e
    | some ps =>
      rw [e2] at e
      simp only at e
      split at e
      · rename_i hc2
        simp only [Bool.and_eq_true, decide_eq_true_eq] at hc2
        cases e
        obtain ⟨b, vs, rfl, ha, r⟩ := a.isLst S
        obtain ⟨bs, qs, rfl, h1, h2⟩ := pairsOf e2 hc2.1 r
        refine ⟨b, bs, qs, rfl, .inl ha, Paired.mapP h1 fun p kv hp => by rw [hK]; exact Same.sqT S hp, fun p hp => ?_⟩
        exact q _ _ (same_upd hp) (.dctK (.inl (grow_up hp)) ((RepP.merge h2 .nil).mono (grow_same S)))
      · cases e
  · simp [dfn] at e
theorem cr_dlistD (hc : X.calm = true) : CallR X (.type "list") (prL Γ (dfn (fun _ _ => false) .dlist)) := by
  refine CallR.imp (call_listD hc) fun xs H Q h => ?_
  obtain ⟨G, ds, z, S, as, e, q⟩ := h
  rcases ds with _ | ⟨d, _ | ⟨d2, ds⟩⟩
  · simp [dfn] at e
  · obtain ⟨v, rfl, a⟩ := as.one
    cases d <;> first | (simp [dfn] at e; done) | skip
    rename_i kvs
    cases e
    obtain ⟨b, ks, rfl, h1, r⟩ := a.isDct S
    exact ⟨b, ks, rfl, h1, fun p hp => giveL S q (RepL.keys r) hp⟩
  · simp [dfn] at e
theorem keysI : ∀ {kvs : List (D × D)} {ks : List (Key × V)} {ns : List Int}, RepP Γ G kvs ks → dints (kvs.map (·.1)) = some ns → ks.map (·.1) = ns.map Sum.inl
  | _, _, _, .nil, e => by cases e; rfl
  | (k, x) :: r, (key, v) :: rs, ns, .cons h0 _ t, e => by
    cases k <;> first | (cases e; done) | skip
    rename_i i
    have e : (dints (r.map (·.1))).map (i :: ·) = some ns := e
    cases e2 : dints (r.map (·.1)) with
    | none => rw [e2] at e; cases e
    | some ms =>
      rw [e2] at e
      cases e
      cases h0
      rw [List.map_cons, List.map_cons, keysI t e2]
theorem sort_one {xs ys : List Int} (p : ys.Perm xs) (s : ys.Pairwise (· ≤ ·)) : ys = xs.mergeSort fun a b => decide (a ≤ b) := by
  have p2 : (xs.mergeSort fun a b => decide (a ≤ b)).Perm xs := List.mergeSort_perm _ _
  have s2 : (xs.mergeSort fun a b => decide (a ≤ b)).Pairwise (fun a b => decide (a ≤ b) = true) := List.pairwise_mergeSort (fun a b c h1 h2 => by simp at *; omega) (fun a b => by simp; omega) _
  refine List.Perm.eq_of_pairwise (le := (· ≤ ·)) (fun a b _ _ h1 h2 => Int.le_antisymm h1 h2) s (s2.imp fun h => by simpa using h) (p.trans p2.symm)
theorem rep_intL {G : Hp} : ∀ (ns : List Int), RepL Γ G (ns.map D.int) (ns.map V.int)
  | [] => .nil
  | n :: ns => .cons (.int n) (rep_intL ns)
theorem cr_dsortD (hc : X.calm = true) : CallR X (.builtin "sorted") (prL Γ (dfn (fun _ _ => false) .dsort)) := by
  refine CallR.imp (call_sortedDI hc) fun xs H Q h => ?_
  obtain ⟨G, ds, z, S, as, e, q⟩ := h
  rcases ds with _ | ⟨d, _ | ⟨d2, ds⟩⟩
  · simp [dfn] at e
  · obtain ⟨v, rfl, a⟩ := as.one
    cases d <;> first | (simp [dfn] at e; done) | skip
    rename_i kvs
    simp only [dfn] at e
    cases e2 : dints (kvs.map (·.1)) with
    | none => rw [e2] at e; cases e
    | some ns =>
      rw [e2] at e
      simp only at e
      split at e
      · rename_i hl
        cases e
        obtain ⟨b, ks, rfl, h1, r⟩ := a.isDct S
        have hk := keysI r e2
        have hlen : ns.length = kvs.length := by
          have := congrArg List.length hk
          simp only [List.length_map] at this
          rw [← this, r.length]
        refine ⟨b, ks, ns, rfl, h1, hk, by omega, fun ys p hp hs hn => ?_⟩
        rw [sort_one hp hs]
        exact giveL S q (rep_intL _) hn
      · cases e
  · simp [dfn] at e
end
end Ip

set_option Elab.async false
set_option linter.all false
set_option maxRecDepth 100000
set_option maxHeartbeats 2000000
/-! IpJ: what a small term says as a reading of the layer. -/
namespace Ip
open PySem PySem.Spec PyProof.Rows L2

/-- an exception of the run, in the layer -/
def RepX (Γ : Env) (G : Hp) : D → Value → Option Addr → Prop
  | .exc c [], cls, d => c ∈ Γ.pl ∧ ∃ x a, Γ.gs[c]? = some x ∧ Γ.mg x = some (.ref a) ∧ cls = .ref a ∧ d = none
  | .exc c [(f, y)], cls, d => (c, f) ∈ Γ.xi ∧ ∃ x C dd v, Γ.gs[c]? = some x ∧ Γ.mg x = some (.ref C) ∧ cls = .ref C ∧ d = some dd ∧ G dd = some (.xd [((f : Str), v)]) ∧ Rep Γ G y v
  | _, _, _ => False

/-- what is wanted of a run's end, from a state on -/
def Fin {α : Type} (Γ : Env) (Z : WX) (Rp : Hp → Rho → α → Hp → Prop) (σ : L2.St) (ρ : Rho) (G : Hp) (η : Hv) (H : Hp) : R α → Prop
  | .ok w η' => ∀ ρ' G' H', Sim Γ ρ' G' η' H' → Ext ρ G η H ρ' G' η' H' → Rp G' ρ' w H'
  | .exc e η' => ∀ cls d ρ' G' H', Sim Γ ρ' G' η' H' → Ext ρ G η H ρ' G' η' H' → RepX Γ G' e cls d → Z cls d σ H'
  | .bad => False
theorem Fin.step {α : Type} {Γ : Env} {Z : WX} {Rp : Hp → Rho → α → Hp → Prop} {σ : L2.St} {ρ ρ1 : Rho} {G G1 : Hp} {η η1 : Hv} {H H1 : Hp} {r : R α} (e : Ext ρ G η H ρ1 G1 η1 H1) (h : Fin Γ Z Rp σ ρ G η H r) : Fin Γ Z Rp σ ρ1 G1 η1 H1 r := by
  cases r with
  | ok w η' => exact fun ρ' G' H' S E => h ρ' G' H' S (e.trans E)
  | exc x η' => exact fun c d ρ' G' H' S E => h c d ρ' G' H' S (e.trans E)
  | bad => exact h
theorem Fin.imp {α : Type} {Γ : Env} {Z : WX} {Rp Rp' : Hp → Rho → α → Hp → Prop} {σ : L2.St} {ρ : Rho} {G : Hp} {η : Hv} {H : Hp} {r : R α} (h : Fin Γ Z Rp σ ρ G η H r) (k : ∀ G ρ w H, Rp G ρ w H → Rp' G ρ w H) : Fin Γ Z Rp' σ ρ G η H r := by
  cases r with
  | ok w η' => exact fun ρ' G' H' S E => k _ _ _ _ (h ρ' G' H' S E)
  | exc x η' => exact h
  | bad => exact h
theorem Fin.imp' {α : Type} {Γ : Env} {Z : WX} {Rp Rp' : Hp → Rho → α → Hp → Prop} {σ : L2.St} {ρ : Rho} {G : Hp} {η : Hv} {H : Hp} {r : R α} (h : Fin Γ Z Rp σ ρ G η H r) (k : ∀ w η', r = .ok w η' → ∀ G ρ H, Rp G ρ w H → Rp' G ρ w H) : Fin Γ Z Rp' σ ρ G η H r := by
  cases r with
  | ok w η' => exact fun ρ' G' H' S E => k w η' rfl _ _ _ (h ρ' G' H' S E)
  | exc x η' => exact h
  | bad => exact h
def pW (Γ : Env) (Q : VK) : Hp → Rho → W → Hp → Prop := fun G ρ w H => ∀ v, RepW Γ G ρ w v → Q v H
def pWs (Γ : Env) (Q : List V → Hp → Prop) : Hp → Rho → List W → Hp → Prop := fun G ρ ws H => ∀ vs, RepWs Γ G ρ ws vs → Q vs H
def pB (Q : Bool → Hp → Prop) : Hp → Rho → W → Hp → Prop := fun _ _ w H => ∃ b, w = .d (.bl b) ∧ Q b H
/-- behind a run's step, the next one -/
theorem Fin.bind {α β : Type} {Γ : Env} {Z : WX} {Rp : Hp → Rho → β → Hp → Prop} {σ : L2.St} {ρ : Rho} {G : Hp} {η : Hv} {H : Hp} {m : M α} {k : α → M β} (h : Fin Γ Z Rp σ ρ G η H ((m >>= k) η)) :
    ∀ (Rq : Hp → Rho → α → Hp → Prop), (∀ w ρ1 G1 η1 H1, Sim Γ ρ1 G1 η1 H1 → Ext ρ G η H ρ1 G1 η1 H1 → Fin Γ Z Rp σ ρ1 G1 η1 H1 (k w η1) → Rq G1 ρ1 w H1) → Fin Γ Z Rq σ ρ G η H (m η) := by
  intro Rq hq
  rw [M.bind_ap] at h
  cases e : m η with
  | ok w η1 =>
    rw [e] at h
    exact fun ρ1 G1 H1 S1 E1 => hq w ρ1 G1 η1 H1 S1 E1 (Fin.step E1 h)
  | exc x η1 =>
    rw [e] at h
    exact h
  | bad =>
    rw [e] at h
    exact h

theorem Fin.bindE {α β : Type} {Γ : Env} {Z : WX} {Rp : Hp → Rho → β → Hp → Prop} {σ : L2.St} {ρ : Rho} {G : Hp} {η : Hv} {H : Hp} {m : M α} {k : α → M β} (h : Fin Γ Z Rp σ ρ G η H ((m >>= k) η)) :
    ∀ (Rq : Hp → Rho → α → Hp → Prop), (∀ w ρ1 G1 η1 H1, m η = .ok w η1 → Sim Γ ρ1 G1 η1 H1 → Ext ρ G η H ρ1 G1 η1 H1 → Fin Γ Z Rp σ ρ1 G1 η1 H1 (k w η1) → Rq G1 ρ1 w H1) → Fin Γ Z Rq σ ρ G η H (m η) := by
  intro Rq hq
  rw [M.bind_ap] at h
  cases e : m η with
  | ok w η1 =>
    rw [e] at h
    exact fun ρ1 G1 H1 S1 E1 => hq w ρ1 G1 η1 H1 e S1 E1 (Fin.step E1 h)
  | exc x η1 =>
    rw [e] at h
    exact h
  | bad =>
    rw [e] at h
    exact h

/-- an expression's reading -/
def tI (Γ : Env) (Z : WX) (f : List (Option W) → M W) : TE := fun σ H Q => ∃ ν η ρ G, Sim Γ ρ G η H ∧ Slots Γ G ρ ν σ ∧ Fin Γ Z (pW Γ Q) σ ρ G η H (f ν η)
/-- a test's -/
def tT (Γ : Env) (Z : WX) (f : List (Option W) → M W) : TT := fun σ H Q => ∃ ν η ρ G, Sim Γ ρ G η H ∧ Slots Γ G ρ ν σ ∧ Fin Γ Z (pB Q) σ ρ G η H (f ν η)
/-- an argument list's -/
def tA (Γ : Env) (Z : WX) (f : List (Option W) → M (List W)) : TA := fun σ H Q => ∃ ν η ρ G, Sim Γ ρ G η H ∧ Slots Γ G ρ ν σ ∧ Fin Γ Z (pWs Γ Q) σ ρ G η H (f ν η)
/-- what is wanted of a statement's end -/
def FinS (Γ : Env) (Z : WX) (D : Ends) (ρ : Rho) (G : Hp) (η : Hv) (H : Hp) : O → Prop
  | .nx ν' η' => ∀ σ' ρ' G' H', Sim Γ ρ' G' η' H' → Ext ρ G η H ρ' G' η' H' → Slots Γ G' ρ' ν' σ' → D.nx σ' H'
  | .brk ν' η' => ∀ σ' ρ' G' H', Sim Γ ρ' G' η' H' → Ext ρ G η H ρ' G' η' H' → Slots Γ G' ρ' ν' σ' → D.bk σ' H'
  | .cnt ν' η' => ∀ σ' ρ' G' H', Sim Γ ρ' G' η' H' → Ext ρ G η H ρ' G' η' H' → Slots Γ G' ρ' ν' σ' → D.ct σ' H'
  | .ret w η' => ∀ v ρ' G' H', Sim Γ ρ' G' η' H' → Ext ρ G η H ρ' G' η' H' → RepW Γ G' ρ' w v → D.rt v H'
  | .exc e ν' η' => ∀ cls d σ' ρ' G' H', Sim Γ ρ' G' η' H' → Ext ρ G η H ρ' G' η' H' → Slots Γ G' ρ' ν' σ' → RepX Γ G' e cls d → Z cls d σ' H'
  | .bad => False
theorem FinS.step {Γ : Env} {Z : WX} {D : Ends} {ρ ρ1 : Rho} {G G1 : Hp} {η η1 : Hv} {H H1 : Hp} {o : O} (e : Ext ρ G η H ρ1 G1 η1 H1) (h : FinS Γ Z D ρ G η H o) : FinS Γ Z D ρ1 G1 η1 H1 o := by
  cases o with
  | bad => exact h
  | exc x ν' η' => exact fun c d σ' ρ' G' H' S E => h c d σ' ρ' G' H' S (e.trans E)
  | _ => exact fun σ' ρ' G' H' S E => h σ' ρ' G' H' S (e.trans E)
/-- a statement's reading -/
def tS (Γ : Env) (Z : WX) (f : List (Option W) → Hv → O) : TS := fun D σ H => ∃ ν η ρ G, Sim Γ ρ G η H ∧ Slots Γ G ρ ν σ ∧ FinS Γ Z D ρ G η H (f ν η)
/-- an expression within a statement -/
theorem FinS.ofE {α : Type} {Γ : Env} {Z : WX} {D : Ends} {σ : L2.St} {ν : List (Option W)} {ρ : Rho} {G : Hp} {η : Hv} {H : Hp} {m : M α} {k : α → Hv → O} (T : Slots Γ G ρ ν σ) (h : FinS Γ Z D ρ G η H (O.ofE ν (m η) k)) :
    ∀ (Rq : Hp → Rho → α → Hp → Prop), (∀ w ρ1 G1 η1 H1, Sim Γ ρ1 G1 η1 H1 → Ext ρ G η H ρ1 G1 η1 H1 → FinS Γ Z D ρ1 G1 η1 H1 (k w η1) → Rq G1 ρ1 w H1) → Fin Γ Z Rq σ ρ G η H (m η) := by
  intro Rq hq
  unfold O.ofE at h
  cases e : m η with
  | ok w η1 =>
    rw [e] at h
    exact fun ρ1 G1 H1 S1 E1 => hq w ρ1 G1 η1 H1 S1 E1 (FinS.step E1 h)
  | exc x η1 =>
    rw [e] at h
    exact fun c d ρ' G' H' S E r => h c d σ ρ' G' H' S E (T.mono E.same E.rho) r
  | bad =>
    rw [e] at h
    exact h

theorem PE.imp {X : Cx} {e : Expr} {t t' : TE} (h : PE X e t) (k : ∀ σ H Q, t' σ H Q → t σ H Q) : PE X e t' := ⟨fun pins s σ H Q I q => h.run pins s σ H Q I (k σ H Q q)⟩
theorem PT.imp {X : Cx} {e : Expr} {t t' : TT} (h : PT X e t) (k : ∀ σ H Q, t' σ H Q → t σ H Q) : PT X e t' := ⟨fun pins s σ H Q I q => h.run pins s σ H Q I (k σ H Q q)⟩
theorem PA.imp {X : Cx} {e : List Expr} {t t' : TA} (h : PA X e t) (k : ∀ σ H Q, t' σ H Q → t σ H Q) : PA X e t' := ⟨fun pos pins s σ H Q I q => h.run pos pins s σ H Q I (k σ H Q q)⟩
theorem PS.imp {X : Cx} {e : Stmt} {t t' : TS} (h : PS X e t) (k : ∀ D σ H, t' D σ H → t D σ H) : PS X e t' := ⟨fun pins s σ H D I q => h.run pins s σ H D I (k D σ H q)⟩
theorem PSs.imp {X : Cx} {e : List Stmt} {t t' : TS} (h : PSs X e t) (k : ∀ D σ H, t' D σ H → t D σ H) : PSs X e t' := ⟨fun pins s σ H D I q => h.run pins s σ H D I (k D σ H q)⟩

section
variable {Γ : Env} {Z : WX} {X : Cx}
/-- an argument more -/
theorem tA_cons {fa : List (Option W) → M W} {fr : List (Option W) → M (List W)} {σ : L2.St} {H : Hp} {Q : List V → Hp → Prop} (h : tA Γ Z (fun ν => do let x ← fa ν; let r ← fr ν; Pure.pure (x :: r)) σ H Q) : tCons (tI Γ Z fa) (tA Γ Z fr) σ H Q := by
  obtain ⟨ν, η, ρ, G, S, T, h⟩ := h
  refine ⟨ν, η, ρ, G, S, T, Fin.bind h _ fun wx ρ1 G1 η1 H1 S1 E1 h1 x rx => ?_⟩
  refine ⟨ν, η1, ρ1, G1, S1, T.mono E1.same E1.rho, Fin.bind h1 _ fun wr ρ2 G2 η2 H2 S2 E2 h2 vr rr => ?_⟩
  exact h2 ρ2 G2 H2 S2 (Ext.refl _ _ _ _) (x :: vr) (.cons (rx.mono E2.same E2.rho) rr)
theorem tA_nil {σ : L2.St} {H : Hp} {Q : List V → Hp → Prop} (h : tA Γ Z (fun _ => Pure.pure []) σ H Q) : tNil σ H Q := by
  obtain ⟨ν, η, ρ, G, S, T, h⟩ := h
  exact h ρ G H S (Ext.refl _ _ _ _) [] .nil
/-- an operation behind its arguments -/
def prM (g : List D → Option D) (ws : List W) : M W := do
  let ds ← asR ws
  let z ← ofO (g ds)
  Pure.pure (.d z)
theorem prM_ok {g : List D → Option D} {ws : List W} {Rp : Hp → Rho → W → Hp → Prop} {σ : L2.St} {ρ : Rho} {G : Hp} {η : Hv} {H : Hp} (h : Fin Γ Z Rp σ ρ G η H (prM g ws η)) :
    ∃ ds z, rdWs η ws = some ds ∧ g ds = some z ∧ Fin Γ Z Rp σ ρ G η H (.ok (.d z) η) := by
  unfold prM at h
  rw [M.bind_ap] at h
  unfold asR at h
  cases e : rdWs η ws with
  | none => rw [e] at h; exact h.elim
  | some ds =>
    rw [e] at h
    simp only at h
    rw [M.bind_ap] at h
    cases e2 : g ds with
    | none => rw [e2] at h; exact h.elim
    | some z => rw [e2] at h; exact ⟨ds, z, rfl, e2, h⟩
theorem prim_call {g : List D → Option D} {fs : List (Option W) → M (List W)} {σ : L2.St} {H : Hp} {Q : VK} (h : tI Γ Z (fun ν => do let ws ← fs ν; prM g ws) σ H Q) : tCB (prL Γ g) (tA Γ Z fs) σ H Q := by
  obtain ⟨ν, η, ρ, G, S, T, h⟩ := h
  refine ⟨ν, η, ρ, G, S, T, Fin.bind h _ fun ws ρ1 G1 η1 H1 S1 E1 h1 vs rs => ?_⟩
  obtain ⟨ds, z, e1, e2, h2⟩ := prM_ok h1
  exact ⟨G1, ds, z, S1.same, RepWs.read S1 rs e1, e2, fun v H' hs r => h2 ρ1 (grow G1 H1 H') H' (S1.grow hs) (Ext.grow S1 hs) v r⟩
theorem rd_two {η : Hv} {a b : W} {ds : List D} (h : rdWs η [a, b] = some ds) : ∃ x y, ds = [x, y] ∧ rdW η a = some x ∧ rdW η b = some y := by
  simp only [rdWs] at h
  cases e1 : rdW η a with
  | none => rw [e1] at h; cases h
  | some x =>
    rw [e1] at h
    simp only at h
    cases e2 : rdW η b with
    | none => rw [e2] at h; cases h
    | some y => rw [e2] at h; cases h; exact ⟨x, y, rfl, rfl, rfl⟩
theorem rd_one {η : Hv} {a : W} {ds : List D} (h : rdWs η [a] = some ds) : ∃ x, ds = [x] ∧ rdW η a = some x := by
  simp only [rdWs] at h
  cases e1 : rdW η a with
  | none => rw [e1] at h; cases h
  | some x => rw [e1] at h; cases h; exact ⟨x, rfl, rfl⟩
theorem prim_op {g : List D → Option D} {g2 : D → D → Option D} (hg : ∀ x y, g [x, y] = g2 x y) {fa fb : List (Option W) → M W} {σ : L2.St} {H : Hp} {Q : VK} (h : tI Γ Z (fun ν => do let x ← fa ν; let y ← fb ν; prM g [x, y]) σ H Q) : tOp (pr2 Γ g2) (tI Γ Z fa) (tI Γ Z fb) σ H Q := by
  obtain ⟨ν, η, ρ, G, S, T, h⟩ := h
  refine ⟨ν, η, ρ, G, S, T, Fin.bind h _ fun wx ρ1 G1 η1 H1 S1 E1 h1 x rx => ?_⟩
  refine ⟨ν, η1, ρ1, G1, S1, T.mono E1.same E1.rho, Fin.bind h1 _ fun wy ρ2 G2 η2 H2 S2 E2 h2 y ry => ?_⟩
  obtain ⟨ds, z, e1, e2, h3⟩ := prM_ok h2
  obtain ⟨d1, d2, rfl, r1, r2⟩ := rd_two e1
  rw [hg] at e2
  exact ⟨G2, d1, d2, z, S2.same, (rx.mono E2.same E2.rho).read S2 r1, ry.read S2 r2, e2, fun v H' hs r => h3 ρ2 (grow G2 H2 H') H' (S2.grow hs) (Ext.grow S2 hs) v r⟩
theorem prim_un {g : List D → Option D} {g1 : D → Option D} (hg : ∀ x, g [x] = g1 x) {fa : List (Option W) → M W} {σ : L2.St} {H : Hp} {Q : VK} (h : tI Γ Z (fun ν => do let x ← fa ν; prM g [x]) σ H Q) : tUn (pr1 Γ g1) (tI Γ Z fa) σ H Q := by
  obtain ⟨ν, η, ρ, G, S, T, h⟩ := h
  refine ⟨ν, η, ρ, G, S, T, Fin.bind h _ fun wx ρ1 G1 η1 H1 S1 E1 h1 x rx => ?_⟩
  obtain ⟨ds, z, e1, e2, h3⟩ := prM_ok h1
  obtain ⟨d1, rfl, r1⟩ := rd_one e1
  rw [hg] at e2
  exact ⟨G1, d1, z, S1.same, rx.read S1 r1, e2, fun v H' hs r => h3 ρ1 (grow G1 H1 H') H' (S1.grow hs) (Ext.grow S1 hs) v r⟩
end
end Ip

set_option Elab.async false
set_option linter.all false
set_option maxRecDepth 100000
set_option maxHeartbeats 2000000
/-! IpOk: which small term goes with which expression. -/
namespace Ip
open PySem PySem.Spec PyProof.Rows L2

/-- what is fixed of a block: its slots' names, its scope, the names whose cells are its own (none: all) -/
structure SC where
  N : List Str
  sc : Scope
  fnl : Option (List (Str × NameKind))
  /-- the name of its lambdas, if it may make any -/
  lm : Option Str
/-- of a lambda's body -/
def SC.lam (S : SC) (scope : Scope) : SC := { N := S.N, sc := scope, fnl := some [], lm := none }
def SC.up (S : SC) : Nat := if S.lm.isSome then 6 else 4
def SC.knd (S : SC) (x : Str) : Option NameKind := S.sc.names.lookup x
def SC.vis (S : SC) (x : Str) : Bool := match S.knd x with
  | some .local => true
  | some .cell => true
  | some .free => true
  | _ => false
def SC.own (S : SC) (x : Str) : Bool := match S.fnl with
  | none => true
  | some l => l.lookup x == some .cell
def SC.loc (S : SC) (x : Str) : Bool := match S.knd x with
  | some .local => true
  | some .cell => S.own x
  | _ => false
def SC.gl (S : SC) (x : Str) : Bool := S.knd x == some .globalImplicit
def nodbg (x : Str) : Bool := !(x == ("__debug__" : Str)) && !(x == ("__classdict__" : Str))
def SC.var (S : SC) (i : Nat) (x : Str) : Bool := S.N[i]? == some x && S.vis x && nodbg x
def SC.glb (S : SC) (x : Str) : Bool := S.gl x && nodbg x

def cD : Const → D → Bool
  | .none, .non => true
  | .bool b, .bl c => b == c
  | .int i, .int j => decide (i = j)
  | .str x, .str s => decide (x = sv s)
  | _, _ => false
def opB : Bop → Operator → Bool
  | .add, .Add => true
  | .sub, .Sub => true
  | .mul, .Mult => true
  | .fdiv, .FloorDiv => true
  | .mod, .Mod => true
  | .pow, .Pow => true
  | _, _ => false
def opC : Cop → CmpOp → Bool
  | .eq, .Eq => true
  | .ne, .NotEq => true
  | .lt, .Lt => true
  | .le, .LtE => true
  | .gt, .Gt => true
  | .ge, .GtE => true
  | .isin, .In => true
  | .notin, .NotIn => true
  | .is_, .Is => true
  | .isnot, .IsNot => true
  | _, _ => false
def fnNm : Fn → Str
  | .len => "len" | .abs => "abs" | .int => "int" | .min => "min" | .max => "max" | .sorted => "sorted" | .list => "list" | .tuple => "tuple" | .dict => "dict" | .set => "set" | .sum => "sum"
  | .any => "any" | .all => "all" | .repr => "repr" | .str => "str" | .range => "range" | .isinst => "isinstance" | .ord => "ord" | .reversed => "reversed" | .bool => "bool" | .dlist => "list" | .dsort => "sorted" | .dmx => "max"
def fnVal : Fn → Value
  | .len => .builtin "len" | .abs => .builtin "abs" | .int => .type "int" | .min => .builtin "min" | .max => .builtin "max" | .sorted => .builtin "sorted" | .list => .type "list" | .tuple => .type "tuple"
  | .dict => .type "dict" | .set => .type "set" | .sum => .builtin "sum" | .any => .builtin "any" | .all => .builtin "all" | .repr => .builtin "repr" | .str => .type "str" | .range => .type "range"
  | .isinst => .builtin "isinstance" | .ord => .builtin "ord" | .reversed => .type "reversed" | .bool => .type "bool" | .dlist => .type "list" | .dsort => .builtin "sorted" | .dmx => .builtin "max"
theorem fn_boot (f : Fn) : bootBuiltins (fnNm f) = some (fnVal f) := by cases f <;> decide +kernel
theorem fn_blt (f : Fn) : fnNm f ∈ bltL := by cases f <;> decide +kernel
theorem fn_name (f : Fn) : fnNm f ≠ "__name__" := by cases f <;> decide +kernel
theorem fn_dbg (f : Fn) : (fnNm f == ("__debug__" : Str)) = false := by cases f <;> decide +kernel
/-- the functions that have a rule -/
def okFn : Fn → Bool
  | .len => true | .abs => true | .int => true | .min => true | .max => true | .sorted => true | .list => true | .tuple => true | .sum => true | .any => true | .all => true | .range => true | .isinst => true | .repr => true | .dict => true | .dlist => true | .dsort => true
  | _ => false
def tyL : List (Str × String) := [("int", "int"), ("bool", "bool"), ("str", "str"), ("tuple", "tuple"), ("list", "list"), ("dict", "dict"), ("ValueError", "ValueError")]
def notStar : Expr → Bool
  | .Starred _ _ => false
  | _ => true
def notSlice : Expr → Bool
  | .Slice _ _ _ _ => false
  | _ => true
/-- its test is its value's -/
def plainT : Expr → Bool
  | .UnaryOp .Not _ _ => false
  | .BoolOp _ _ _ => false
  | .IfExp _ _ _ _ => false
  | .Compare _ _ _ _ => false
  | _ => true
theorem isTrue_plain {e : Expr} (h : plainT e = true) (env : PySem.Env) (whole : Sem Value) : isTrue e env whole = (do let v ← whole; standAt e.pos; holding [v] (truthy v)) := by
  cases e <;> first | (simp [plainT] at h; done) | rfl | skip
  rename_i op a pos
  cases op <;> first | (simp [plainT] at h; done) | rfl
theorem star_of {e : Expr} (h : notStar e = true) (es : List Expr) (env : PySem.Env) : starEach (e :: es) env = (false, eval e env) :: starEach es env := by
  cases e <;> first | (simp [notStar] at h; done) | rfl
theorem plainIx_of {e : Expr} (h : notSlice e = true) : PlainIx e := by
  intro o i
  cases e <;> first | (simp [notSlice] at h; done) | rfl
theorem noSplat {es : List Expr} (h : es.all notStar = true) (pos : Pos) (env : PySem.Env) : (backTo pos (starEach es env)).any (·.1) = false := by
  induction es with
  | nil => rfl
  | cons e es ih =>
    simp only [List.all_cons, Bool.and_eq_true] at h
    rw [star_of h.1]
    show ((false : Bool) || _) = false
    rw [Bool.false_or]
    exact ih h.2

/-- not super().name or the like -/
def notCall0 : Expr → Bool
  | .Call (.Name _ _) [] [] _ => false
  | _ => true
theorem base_of {o : Expr} (h : notCall0 o = true) (name : Str) (env : PySem.Env) : attributeBase o name env (eval o env) = eval o env := by
  unfold attributeBase
  split
  · simp [notCall0] at h
  · rfl
def optL : Option Expr → List Expr
  | none => []
  | some e => [e]
/-! ### the forms -/
section
variable (B : Tb) (S : SC)
def fCst (d : D) (e : Expr) : Bool := match e with
  | .Constant k _ _ => cD k d
  | .Name x _ => S.glb x && (match d with
    | .glo c => B.gs[c]? == some x
    | .ty n => tyL.contains (x, n)
    | d => decide ((x, d) ∈ B.ks))
  | _ => false
def fVar (i : Nat) (e : Expr) : Bool := match e with
  | .Name x _ => S.var i x
  | _ => false
def fBin (o : Bop) (e : Expr) (k : List Expr → Bool) : Bool := match e with
  | .BinOp l op r _ => opB o op && k [l, r]
  | _ => false
def fCmp (o : Cop) (e : Expr) (k : List Expr → Bool) : Bool := match e with
  | .Compare l [op] [r] _ => opC o op && !behindInMarks op r && k [l, r]
  | _ => false
def fNeg (e : Expr) (k : List Expr → Bool) : Bool := match e with
  | .UnaryOp .USub a _ => k [a]
  | _ => false
def fItem (e : Expr) (k : List Expr → Bool) : Bool := match e with
  | .Subscript a b _ => notSlice b && k [a, b]
  | _ => false
def fSlice (lo hi : Bool) (e : Expr) (k : List Expr → Bool) : Bool := match e with
  | .Subscript a (.Slice l h none _) _ => !(lo && hi) && (l.isSome == lo) && (h.isSome == hi) && k (a :: (optL l ++ optL h))
  | _ => false
def fTup (e : Expr) (k : List Expr → Bool) : Bool := match e with
  | .Tuple as _ _ => k as
  | _ => false
def fLst (e : Expr) (k : List Expr → Bool) : Bool := match e with
  | .List as _ => k as
  | _ => false
def fFn (f : Fn) (e : Expr) (k : List Expr → Bool) : Bool := match e with
  | .Call (.Name x _) (a :: as) [] _ => okFn f && decide (x = fnNm f) && S.gl x && k (a :: as)
  | _ => false
def fAttr (n : String) (e : Expr) (k : List Expr → Bool) : Bool := match e with
  | .Attribute o m _ => decide (m = (n : Str)) && notCall0 o && k [o]
  | _ => false
def fVals (e : Expr) (k : List Expr → Bool) : Bool := match e with
  | .Call (.Name x _) [.Call (.Attribute o m ap) [] [] cp] [] _ => decide (x = "list") && S.gl "list" && decide (m = "values") && notCall0 o && (ap.endLine == cp.line) && k [o]
  | _ => false
def fPr (p : Pr) (e : Expr) (k : List Expr → Bool) : Bool := match p with
  | .bin o => fBin o e k
  | .cmp o => fCmp o e k
  | .neg => fNeg e k
  | .item => fItem e k
  | .slice lo hi => fSlice lo hi e k
  | .tup => fTup e k
  | .lst => fLst e k
  | .fn f => fFn S f e k
  | .attr n => fAttr n e k
  | _ => false
def fSlc (e : Expr) (k1 k2 k3 : Expr → Bool) : Bool := match e with
  | .Subscript x (.Slice (some y) (some z) none _) _ => k1 x && k2 y && k3 z
  | _ => false
def fNt (e : Expr) (k : Expr → Bool) : Bool := match e with
  | .UnaryOp .Not x _ => k x
  | _ => false
def fAnd (e : Expr) (k1 k2 : Expr → Bool) : Bool := match e with
  | .BoolOp .And [x, y] _ => k1 x && k2 y
  | .BoolOp .And (x :: y :: z :: r) pos => k1 x && k2 (.BoolOp .And (y :: z :: r) pos)
  | _ => false
def fOr (e : Expr) (k1 k2 : Expr → Bool) : Bool := match e with
  | .BoolOp .Or [x, y] _ => k1 x && k2 y
  | .BoolOp .Or (x :: y :: z :: r) pos => k1 x && k2 (.BoolOp .Or (y :: z :: r) pos)
  | _ => false
def fChn (o p : Cop) (e : Expr) (k1 k2 k3 : Expr → Bool) : Bool := match e with
  | .Compare l [op, oq] [m, r] _ => opC o op && opC p oq && !behindInMarks oq r && k1 l && k2 m && k3 r
  | _ => false
def fIte (e : Expr) (k1 k2 k3 : Expr → Bool) : Bool := match e with
  | .IfExp t x y _ => k1 t && k2 x && k3 y
  | _ => false
def fCall (f : Nat) (e : Expr) (k : List Expr → Bool) : Bool := match e with
  | .Call (.Name x _) as [] _ => (B.ft[f]? == some (x, as.length)) && S.glb x && k as
  | _ => false
def fMk (c : Nat) (e : Expr) (k : List Expr → Bool) : Bool := match e with
  | .Call (.Name x _) [y] [] _ => (B.gs[c]? == some x) && B.pl.contains c && S.glb x && notStar y && k [y]
  | _ => false
def fMx (c : Nat) (e : Expr) (k : List Expr → Bool) : Bool := match e with
  | .Call (.Name x _) [y] [] _ => (B.gs[c]? == some x) && B.xi.any (fun p => p.1 == c) && S.glb x && notStar y && k [y]
  | _ => false
def fMkk (c : Nat) (e : Expr) (k : Expr → Bool) : Bool := match e with
  | .Call (.Name x _) [] [⟨some nm, y, _⟩] _ => (B.gs[c]? == some x) && B.xi.any (fun p => p.1 == c && decide ((p.2 : Str) = nm)) && S.glb x && k y
  | _ => false
def parNil : Arguments → Bool
  | ⟨[], [], none, [], [], none, []⟩ => true
  | _ => false
def fCau (q : Nat) (e : Expr) (k : SC → Expr → Bool) : Bool := match e with
  | .Call (.Name x _) [.Lambda ps body scope _] [] _ => decide ((x, q) ∈ B.ct) && S.glb x && S.lm.isSome && parNil ps && LamX.lamSB S.sc scope && k (S.lam scope) body
  | _ => false
def kwNm : List Keyword → Option (List Str)
  | [] => some []
  | ⟨some n, _, _⟩ :: r => (kwNm r).map (n :: ·)
  | _ :: _ => none
def fCallk (f n : Nat) (pm : List Nat) (e : Expr) (k : List Expr → Bool) : Bool := match e with
  | .Call (.Name x _) [] kws _ => (match B.ft[f]?, kwNm kws with
    | some (y, m), some ks => decide (y = x) && decide (m = n) && decide (kws.length = n) && decide (pm.length = n) && decide ((f, ks, pm) ∈ B.kw) && S.glb x && k (kws.map (·.value))
    | _, _ => false)
  | _ => false
def fMt1 (nm : Str) (e : Expr) (k1 k2 : Expr → Bool) : Bool := match e with
  | .Call (.Attribute o name apos) [y] [] cpos => decide (name = nm) && notCall0 o && (apos.endLine == cpos.line) && notStar y && k1 o && k2 y
  | _ => false
def fMt0 (nm : Str) (e : Expr) (k1 : Expr → Bool) : Bool := match e with
  | .Call (.Attribute o name apos) [] [] cpos => decide (name = nm) && notCall0 o && (apos.endLine == cpos.line) && k1 o
  | _ => false
end
def Pt.vars : Pt → List Nat
  | .var i => [i]
  | .pair a b => a.vars ++ b.vars
  | .tri a b d => a.vars ++ (b.vars ++ d.vars)
def fPv (S : SC) (i : Nat) (e : Expr) : Bool := match e with
  | .Name x _ => (S.N[i]? == some x) && S.loc x
  | _ => false
def fPp (e : Expr) (k1 k2 : Expr → Bool) : Bool := match e with
  | .Tuple [x, y] _ _ => notStar x && notStar y && k1 x && k2 y
  | _ => false
def fPt (e : Expr) (k1 k2 k3 : Expr → Bool) : Bool := match e with
  | .Tuple [x, y, z] _ _ => notStar x && notStar y && notStar z && k1 x && k2 y && k3 z
  | _ => false
def okP (S : SC) : Pt → Expr → Bool
  | .var i, e => fPv S i e
  | .pair a b, e => fPp e (okP S a) (okP S b)
  | .tri a b d, e => fPt e (okP S a) (okP S b) (okP S d)
theorem fPv_inv {S : SC} {i : Nat} {e : Expr} (h : fPv S i e = true) : ∃ x p, e = .Name x p ∧ (S.N[i]? == some x) = true ∧ S.loc x = true := by
  unfold fPv at h
  split at h
  · rw [Bool.and_eq_true] at h; exact ⟨_, _, rfl, h.1, h.2⟩
  · cases h
theorem fPp_inv {e : Expr} {k1 k2 : Expr → Bool} (h : fPp e k1 k2 = true) : ∃ x y j p, e = .Tuple [x, y] j p ∧ notStar x = true ∧ notStar y = true ∧ k1 x = true ∧ k2 y = true := by
  unfold fPp at h
  split at h
  · simp only [Bool.and_eq_true] at h; exact ⟨_, _, _, _, rfl, h.1.1.1, h.1.1.2, h.1.2, h.2⟩
  · cases h
theorem fPt_inv {e : Expr} {k1 k2 k3 : Expr → Bool} (h : fPt e k1 k2 k3 = true) : ∃ x y z j p, e = .Tuple [x, y, z] j p ∧ notStar x = true ∧ notStar y = true ∧ notStar z = true ∧ k1 x = true ∧ k2 y = true ∧ k3 z = true := by
  unfold fPt at h
  split at h
  · simp only [Bool.and_eq_true] at h; exact ⟨_, _, _, _, _, rfl, h.1.1.1.1.1, h.1.1.1.1.2, h.1.1.1.2, h.1.1.2, h.1.2, h.2⟩
  · cases h
theorem assign_of {e : Expr} (h : notStar e = true) (es : List Expr) (env : PySem.Env) : assignEach (e :: es) env = (false, assign e env) :: assignEach es env := by
  cases e <;> first | (cases h; done) | rfl
def SC.blk (S : SC) (scope : Scope) : SC := { N := S.N, sc := relS scope S.sc, fnl := some scope.names, lm := none }
def okBlk (S : SC) (scope : Scope) (vs : List Nat) : Bool :=
  (scope.kind == .function) && scope.names.all (fun y => scope.names.lookup y.1 == some y.2) && vs.all (fun i => decide (i < S.N.length)) &&
  scope.names.all (fun y => !(y.2 == .free) || (S.sc.names.lookup y.1 == some .cell || S.sc.names.lookup y.1 == some .free)) &&
  scope.names.all (fun y => !(y.2 == .local || y.2 == .cell) || ((vs.map fun i => S.N.getD i ⟨#[]⟩).contains y.1 || !(S.N.contains y.1)))

def fItem2 (e : Expr) (k1 k2 : Expr → Bool) : Bool := match e with
  | .Subscript a b _ => notSlice b && k1 a && k2 b
  | _ => false
def inter : List (Option Expr) → List Expr → List Expr
  | some k :: ks, v :: vs => k :: v :: inter ks vs
  | _, _ => []
def fDct (e : Expr) (k : List Expr → Bool) : Bool := match e with
  | .Dict keys vals _ => keys.all (·.isSome) && decide (keys.length = vals.length) && decide (keys.length ≤ 15) && k (inter keys vals)
  | _ => false
theorem fItem2_inv {e : Expr} {k1 k2 : Expr → Bool} (h : fItem2 e k1 k2 = true) : ∃ a b p, e = .Subscript a b p ∧ notSlice b = true ∧ k1 a = true ∧ k2 b = true := by
  unfold fItem2 at h
  split at h
  · simp only [Bool.and_eq_true] at h; exact ⟨_, _, _, rfl, h.1.1, h.1.2, h.2⟩
  · cases h
theorem fDct_inv {e : Expr} {k : List Expr → Bool} (h : fDct e k = true) : ∃ keys vals p, e = .Dict keys vals p ∧ keys.all (·.isSome) = true ∧ keys.length = vals.length ∧ keys.length ≤ 15 ∧ k (inter keys vals) = true := by
  unfold fDct at h
  split at h
  · simp only [Bool.and_eq_true, decide_eq_true_eq] at h; exact ⟨_, _, _, rfl, h.1.1.1, h.1.1.2, h.1.2, h.2⟩
  · cases h
def notSet : Expr → Bool
  | .Set _ _ _ => false
  | _ => true
theorem foldSet {e : Expr} (h : notSet e = true) (env : PySem.Env) (x : Value) : foldedSetIterable e env x = pure x := by
  cases e <;> first | (cases h; done) | rfl
def isTup : Expr → Bool
  | .Tuple _ _ _ => true
  | _ => false
def fIt (S : SC) (ik : Ik) (tg e : Expr) (k : List Expr → Bool) : Bool := match ik with
  | .plain => notSet e && k [e]
  | .raw => notSet e && k [e]
  | .range => (match e with
    | .Call (.Name x _) as [] _ => decide (x = "range") && S.gl "range" && (as.length == 1 || as.length == 2) && k as
    | _ => false)
  | .zip => (match e with
    | .Call (.Name x _) [a, b] [] _ => decide (x = "zip") && S.gl "zip" && isTup tg && k [a, b]
    | _ => false)
  | .enum => (match e with
    | .Call (.Name x _) [a] [] _ => decide (x = "enumerate") && S.gl "enumerate" && isTup tg && k [a]
    | _ => false)
  | _ => false
def fLc (S : SC) (vs : List Nat) (ik : Ik) (pt : Pt) (e : Expr) (kI : List Expr → Bool) (kG : SC → Expr → List Expr → Bool) : Bool := match e with
  | .ListComp elt [⟨tg, iter, ifs, isA⟩] scope _ => decide (isA = 0) && okBlk S scope vs && okP (S.blk scope) pt tg && pt.vars.all (fun i => vs.contains i) && fIt S ik tg iter kI && decide (ifs.length ≤ 1) && kG (S.blk scope) elt ifs
  | _ => false
section
variable (B : Tb)
mutual
def okE : Ex → SC → Expr → Bool
  | .cst d, S, e => fCst B S d e
  | .var i, S, e => fVar S i e
  | .pr p es, S, e => fPr S p e (okL es S)
  | .slc a b d, S, e => fSlc e (okE a S) (okE b S) (okE d S)
  | .nt a, S, e => fNt e (okE a S)
  | .and a b, S, e => fAnd e (okE a S) (okE b S)
  | .or a b, S, e => fOr e (okE a S) (okE b S)
  | .chn o p a b d, S, e => fChn o p e (okE a S) (okE b S) (okE d S)
  | .ite c a b, S, e => fIte e (okE c S) (okE a S) (okE b S)
  | .call _ f es, S, e => fCall B S f e (okL es S)
  | .nlst es, S, e => fLst e (okL es S)
  | .mk c es, S, e => fMk B S c e (okL es S) || fMx B S c e (okL es S)
  | .mkk c a, S, e => fMkk B S c e (okE a S)
--   | .cau q a, S, e => fCau B S q e (okE a)
  | .callk _ f n pm es, S, e => fCallk B S f n pm e (okL es S)
  | .frz a, S, e => plainT e && okE a S e
  | .app a x, S, e => fMt1 "append" e (okE a S) (okE x S)
  | .pop a, S, e => fMt0 "pop" e (okE a S)
  | .popi a x, S, e => fMt1 "pop" e (okE a S) (okE x S)
  | .dget a b, S, e => fItem2 e (okE a S) (okE b S)
  | .ndct es, S, e => fDct e (okL es S)
  | .lc _ vs ik pt it r, S, e => fLc S vs ik pt e (okL it S) (okG r)
  | _, _, _ => false
def okL : Ex → SC → List Expr → Bool
  | .nil, _, es => es.isEmpty
  | .cons a r, S, es => match es with
    | e :: es => notStar e && okE a S e && okL r S es
    | [] => false
  | _, _, _ => false
/-- a turn of a comprehension -/
def okG : Ex → SC → Expr → List Expr → Bool
  | .yld x, S, elt, ifs => ifs.isEmpty && okE x S elt
  | .gif t r, S, elt, ifs => match ifs with
    | cd :: ifs => okE t S cd && okG r S elt ifs
    | [] => false
  | _, _, _, _ => false
end
end

section
variable {B : Tb} {S : SC} {e : Expr} {k : List Expr → Bool} {k1 k2 k3 : Expr → Bool}
theorem fCst_inv {d : D} (h : fCst B S d e = true) : (∃ k j p, e = .Constant k j p ∧ cD k d = true) ∨ (∃ x p, e = .Name x p ∧ S.glb x = true ∧ ((∃ c, d = .glo c ∧ B.gs[c]? = some x) ∨ (∃ n, d = .ty n ∧ tyL.contains (x, n) = true) ∨ (x, d) ∈ B.ks)) := by
  unfold fCst at h
  split at h
  · exact .inl ⟨_, _, _, rfl, h⟩
  · rw [Bool.and_eq_true] at h
    refine .inr ⟨_, _, rfl, h.1, ?_⟩
    have h2 := h.2
    split at h2
    · exact .inl ⟨_, rfl, beq_iff_eq.mp h2⟩
    · exact .inr (.inl ⟨_, rfl, h2⟩)
    · exact .inr (.inr (of_decide_eq_true h2))
  · cases h
theorem fVar_inv {i : Nat} (h : fVar S i e = true) : ∃ x p, e = .Name x p ∧ S.var i x = true := by
  unfold fVar at h; split at h <;> first | exact ⟨_, _, rfl, h⟩ | cases h
theorem fBin_inv {o : Bop} (h : fBin o e k = true) : ∃ l op r p, e = .BinOp l op r p ∧ opB o op = true ∧ k [l, r] = true := by
  unfold fBin at h
  split at h
  · rw [Bool.and_eq_true] at h; exact ⟨_, _, _, _, rfl, h.1, h.2⟩
  · cases h
theorem fCmp_inv {o : Cop} (h : fCmp o e k = true) : ∃ l op r p, e = .Compare l [op] [r] p ∧ opC o op = true ∧ behindInMarks op r = false ∧ k [l, r] = true := by
  unfold fCmp at h
  split at h
  · rw [Bool.and_eq_true, Bool.and_eq_true, Bool.not_eq_true'] at h; exact ⟨_, _, _, _, rfl, h.1.1, h.1.2, h.2⟩
  · cases h
theorem fNeg_inv (h : fNeg e k = true) : ∃ a p, e = .UnaryOp .USub a p ∧ k [a] = true := by
  unfold fNeg at h; split at h <;> first | exact ⟨_, _, rfl, h⟩ | cases h
theorem fItem_inv (h : fItem e k = true) : ∃ a b p, e = .Subscript a b p ∧ notSlice b = true ∧ k [a, b] = true := by
  unfold fItem at h
  split at h
  · rw [Bool.and_eq_true] at h; exact ⟨_, _, _, rfl, h.1, h.2⟩
  · cases h
theorem fSlice_inv {lo hi : Bool} (h : fSlice lo hi e k = true) : ∃ a l u p p2, e = .Subscript a (.Slice l u none p2) p ∧ (lo && hi) = false ∧ l.isSome = lo ∧ u.isSome = hi ∧ k (a :: (optL l ++ optL u)) = true := by
  unfold fSlice at h
  split at h
  · rw [Bool.and_eq_true, Bool.and_eq_true, Bool.and_eq_true, Bool.not_eq_true', beq_iff_eq, beq_iff_eq] at h; exact ⟨_, _, _, _, _, rfl, h.1.1.1, h.1.1.2, h.1.2, h.2⟩
  · cases h
theorem fTup_inv (h : fTup e k = true) : ∃ as j p, e = .Tuple as j p ∧ k as = true := by
  unfold fTup at h; split at h <;> first | exact ⟨_, _, _, rfl, h⟩ | cases h
theorem fLst_inv (h : fLst e k = true) : ∃ as p, e = .List as p ∧ k as = true := by
  unfold fLst at h; split at h <;> first | exact ⟨_, _, rfl, h⟩ | cases h
theorem fFn_inv {f : Fn} (h : fFn S f e k = true) : ∃ q a as p, e = .Call (.Name (fnNm f) q) (a :: as) [] p ∧ okFn f = true ∧ S.gl (fnNm f) = true ∧ k (a :: as) = true := by
  unfold fFn at h
  split at h
  · rw [Bool.and_eq_true, Bool.and_eq_true, Bool.and_eq_true, decide_eq_true_eq] at h
    obtain ⟨⟨⟨h1, rfl⟩, h3⟩, h4⟩ := h
    exact ⟨_, _, _, _, rfl, h1, h3, h4⟩
  · cases h
theorem fSlc_inv (h : fSlc e k1 k2 k3 = true) : ∃ x y z p p2, e = .Subscript x (.Slice (some y) (some z) none p2) p ∧ k1 x = true ∧ k2 y = true ∧ k3 z = true := by
  unfold fSlc at h
  split at h
  · rw [Bool.and_eq_true, Bool.and_eq_true] at h; exact ⟨_, _, _, _, _, rfl, h.1.1, h.1.2, h.2⟩
  · cases h
theorem fNt_inv (h : fNt e k1 = true) : ∃ x p, e = .UnaryOp .Not x p ∧ k1 x = true := by
  unfold fNt at h; split at h <;> first | exact ⟨_, _, rfl, h⟩ | cases h
theorem fAnd_inv (h : fAnd e k1 k2 = true) : (∃ x y p, e = .BoolOp .And [x, y] p ∧ k1 x = true ∧ k2 y = true) ∨ (∃ x y z r p, e = .BoolOp .And (x :: y :: z :: r) p ∧ k1 x = true ∧ k2 (.BoolOp .And (y :: z :: r) p) = true) := by
  unfold fAnd at h
  split at h
  · rw [Bool.and_eq_true] at h; exact .inl ⟨_, _, _, rfl, h.1, h.2⟩
  · rw [Bool.and_eq_true] at h; exact .inr ⟨_, _, _, _, _, rfl, h.1, h.2⟩
  · cases h
theorem fOr_inv (h : fOr e k1 k2 = true) : (∃ x y p, e = .BoolOp .Or [x, y] p ∧ k1 x = true ∧ k2 y = true) ∨ (∃ x y z r p, e = .BoolOp .Or (x :: y :: z :: r) p ∧ k1 x = true ∧ k2 (.BoolOp .Or (y :: z :: r) p) = true) := by
  unfold fOr at h
  split at h
  · rw [Bool.and_eq_true] at h; exact .inl ⟨_, _, _, rfl, h.1, h.2⟩
  · rw [Bool.and_eq_true] at h; exact .inr ⟨_, _, _, _, _, rfl, h.1, h.2⟩
  · cases h
theorem fChn_inv {o p : Cop} (h : fChn o p e k1 k2 k3 = true) : ∃ l op oq m r ps, e = .Compare l [op, oq] [m, r] ps ∧ opC o op = true ∧ opC p oq = true ∧ behindInMarks oq r = false ∧ k1 l = true ∧ k2 m = true ∧ k3 r = true := by
  unfold fChn at h
  split at h
  · simp only [Bool.and_eq_true, Bool.not_eq_true'] at h
    exact ⟨_, _, _, _, _, _, rfl, h.1.1.1.1.1, h.1.1.1.1.2, h.1.1.1.2, h.1.1.2, h.1.2, h.2⟩
  · cases h
theorem fIte_inv (h : fIte e k1 k2 k3 = true) : ∃ t x y p, e = .IfExp t x y p ∧ k1 t = true ∧ k2 x = true ∧ k3 y = true := by
  unfold fIte at h
  split at h
  · simp only [Bool.and_eq_true] at h
    exact ⟨_, _, _, _, rfl, h.1.1, h.1.2, h.2⟩
  · cases h
theorem fCall_inv {f : Nat} (h : fCall B S f e k = true) : ∃ x q as p, e = .Call (.Name x q) as [] p ∧ B.ft[f]? = some (x, as.length) ∧ S.glb x = true ∧ k as = true := by
  unfold fCall at h
  split at h
  · simp only [Bool.and_eq_true, beq_iff_eq] at h
    exact ⟨_, _, _, _, rfl, h.1.1, h.1.2, h.2⟩
  · cases h
theorem fMk_inv {c : Nat} (h : fMk B S c e k = true) : ∃ x y p pos, e = .Call (.Name x p) [y] [] pos ∧ B.gs[c]? = some x ∧ c ∈ B.pl ∧ S.glb x = true ∧ notStar y = true ∧ k [y] = true := by
  unfold fMk at h
  split at h
  · simp only [Bool.and_eq_true, beq_iff_eq, List.contains_eq_mem, decide_eq_true_eq] at h
    exact ⟨_, _, _, _, rfl, h.1.1.1.1, h.1.1.1.2, h.1.1.2, h.1.2, h.2⟩
  · cases h
theorem fMx_inv {c : Nat} (h : fMx B S c e k = true) : ∃ x y p pos f, e = .Call (.Name x p) [y] [] pos ∧ B.gs[c]? = some x ∧ (c, f) ∈ B.xi ∧ S.glb x = true ∧ notStar y = true ∧ k [y] = true := by
  unfold fMx at h
  split at h
  · simp only [Bool.and_eq_true, beq_iff_eq, List.any_eq_true] at h
    obtain ⟨⟨⟨⟨h1, ⟨p, hp, h2⟩⟩, h3⟩, h4⟩, h5⟩ := h
    subst h2
    exact ⟨_, _, _, _, p.2, rfl, h1, hp, h3, h4, h5⟩
  · cases h
theorem fMkk_inv {c : Nat} (h : fMkk B S c e k1 = true) : ∃ x y p pos f kp, e = .Call (.Name x p) [] [⟨some ((f : String) : Str), y, kp⟩] pos ∧ B.gs[c]? = some x ∧ (c, f) ∈ B.xi ∧ S.glb x = true ∧ k1 y = true := by
  unfold fMkk at h
  split at h
  · simp only [Bool.and_eq_true, beq_iff_eq, List.any_eq_true, decide_eq_true_eq] at h
    obtain ⟨⟨⟨h1, ⟨p, hp, h2, h2b⟩⟩, h3⟩, h4⟩ := h
    subst h2
    subst h2b
    exact ⟨_, _, _, _, p.2, _, rfl, h1, hp, h3, h4⟩
  · cases h
theorem fAttr_inv {n : String} (h : fAttr n e k = true) : ∃ o p, e = .Attribute o (n : Str) p ∧ notCall0 o = true ∧ k [o] = true := by
  unfold fAttr at h
  split at h
  · simp only [Bool.and_eq_true, decide_eq_true_eq] at h
    obtain ⟨⟨rfl, h2⟩, h3⟩ := h
    exact ⟨_, _, rfl, h2, h3⟩
  · cases h
theorem fVals_inv (h : fVals S e k = true) : ∃ o p1 ap cp p2, e = .Call (.Name "list" p1) [.Call (.Attribute o "values" ap) [] [] cp] [] p2 ∧ S.gl "list" = true ∧ notCall0 o = true ∧ (ap.endLine == cp.line) = true ∧ k [o] = true := by
  unfold fVals at h
  split at h
  · simp only [Bool.and_eq_true, decide_eq_true_eq] at h
    obtain ⟨⟨⟨⟨⟨rfl, h1⟩, rfl⟩, h2⟩, h3⟩, h4⟩ := h
    exact ⟨_, _, _, _, _, rfl, h1, h2, h3, h4⟩
  · cases h
theorem parNil_inv {ps : Arguments} (h : parNil ps = true) : ps = ⟨[], [], none, [], [], none, []⟩ := by
  unfold parNil at h
  split at h
  · rfl
  · cases h
theorem fCau_inv {q : Nat} {kk : SC → Expr → Bool} (h : fCau B S q e kk = true) : ∃ x p ps body scope lp pos, e = .Call (.Name x p) [.Lambda ps body scope lp] [] pos ∧ (x, q) ∈ B.ct ∧ S.glb x = true ∧ S.lm.isSome = true ∧ ps = ⟨[], [], none, [], [], none, []⟩ ∧ LamX.lamSB S.sc scope = true ∧ kk (S.lam scope) body = true := by
  unfold fCau at h
  split at h
  · simp only [Bool.and_eq_true, decide_eq_true_eq] at h
    obtain ⟨⟨⟨⟨⟨h1, h2⟩, h3⟩, h4⟩, h5⟩, h6⟩ := h
    exact ⟨_, _, _, _, _, _, _, rfl, h1, h2, h3, parNil_inv h4, h5, h6⟩
  · cases h
theorem fCallk_inv {f n : Nat} {pm : List Nat} (h : fCallk B S f n pm e k = true) : ∃ x p kws pos ks, e = .Call (.Name x p) [] kws pos ∧ B.ft[f]? = some (x, n) ∧ kwNm kws = some ks ∧ kws.length = n ∧ pm.length = n ∧ (f, ks, pm) ∈ B.kw ∧ S.glb x = true ∧ k (kws.map (·.value)) = true := by
  unfold fCallk at h
  split at h
  · split at h
    · rename_i e1 e2
      simp only [Bool.and_eq_true, decide_eq_true_eq] at h
      obtain ⟨⟨⟨⟨⟨⟨rfl, rfl⟩, h1⟩, h5⟩, h2⟩, h3⟩, h4⟩ := h
      exact ⟨_, _, _, _, _, rfl, e1, e2, h1, h5, h2, h3, h4⟩
    · cases h
  · cases h
theorem fMt1_inv {nm : Str} (h : fMt1 nm e k1 k2 = true) : ∃ o apos y cpos, e = .Call (.Attribute o nm apos) [y] [] cpos ∧ notCall0 o = true ∧ (apos.endLine == cpos.line) = true ∧ notStar y = true ∧ k1 o = true ∧ k2 y = true := by
  unfold fMt1 at h
  split at h
  · simp only [Bool.and_eq_true, decide_eq_true_eq] at h
    obtain ⟨⟨⟨⟨⟨rfl, h2⟩, h3⟩, h4⟩, h5⟩, h6⟩ := h
    exact ⟨_, _, _, _, rfl, h2, h3, h4, h5, h6⟩
  · cases h
theorem fMt0_inv {nm : Str} (h : fMt0 nm e k1 = true) : ∃ o apos cpos, e = .Call (.Attribute o nm apos) [] [] cpos ∧ notCall0 o = true ∧ (apos.endLine == cpos.line) = true ∧ k1 o = true := by
  unfold fMt0 at h
  split at h
  · simp only [Bool.and_eq_true, decide_eq_true_eq] at h
    obtain ⟨⟨⟨rfl, h2⟩, h3⟩, h4⟩ := h
    exact ⟨_, _, _, rfl, h2, h3, h4⟩
  · cases h
end
section
variable {S : SC} {e : Expr}
theorem fLc_inv {vs : List Nat} {ik : Ik} {pt : Pt} {kI : List Expr → Bool} {kG : SC → Expr → List Expr → Bool} (h : fLc S vs ik pt e kI kG = true) : ∃ elt tg iter ifs scope pos, e = .ListComp elt [⟨tg, iter, ifs, 0⟩] scope pos ∧ okBlk S scope vs = true ∧ okP (S.blk scope) pt tg = true ∧
    (∀ i ∈ pt.vars, i ∈ vs) ∧ fIt S ik tg iter kI = true ∧ ifs.length ≤ 1 ∧ kG (S.blk scope) elt ifs = true := by
  unfold fLc at h
  split at h
  · simp only [Bool.and_eq_true, decide_eq_true_eq, List.all_eq_true, List.contains_eq_mem] at h
    obtain ⟨⟨⟨⟨⟨⟨rfl, h2⟩, h3⟩, h4⟩, h5⟩, h6⟩, h7⟩ := h
    exact ⟨_, _, _, _, _, _, rfl, h2, h3, h4, h5, h6, h7⟩
  · cases h
end
end Ip

set_option Elab.async false
set_option linter.all false
set_option maxRecDepth 100000
set_option maxHeartbeats 1000000
/-! IpXi: an own exception class over ValueError whose __init__ says super().__init__('..'); self.f = f. -/
namespace Ip
open PySem PySem.Spec PyProof.Rows L2

/-- the function, its captured cell, its code object -/
structure XiF (prog : Program) (K : PySem.W.Frag) (C fI : Addr) (f : Str) (fd : FuncData) : Prop where
  ex : ∃ (oc : Value) (od : Option Addr) (qual : Str) (params : Arguments) (body : List Stmt) (scope : Scope) (doc pm : Value) (an : Option Addr) (cda : Addr) (ct : Value) (osl : Array (Option Value)) (cc : Addr),
    fd = PySem.W.fnX "__init__" qual params body scope [("__class__", cc)] .none .none doc pm an (.ref cda) ct ∧ K.lookup fI = some ⟨oc, od, .func fd, osl⟩ ∧ PySem.W.codeIn K (.ref cda) qual = true ∧ xiPar params f = true ∧ xiBody body f = true ∧ xiScope scope f = true ∧
    (∃ (ol : Value) (ld : Option Addr) (lsl : Array (Option Value)), K.lookup cc = some ⟨ol, ld, .cell (some (.ref C)), lsl⟩) ∧
    ∃ (ol : Value) (ld : Option Addr) (lsl : Array (Option Value)) (vs : Array Value) (file : Str) (tf : Tok), K.lookup cda = some ⟨ol, ld, .fields vs, lsl⟩ ∧ vs[2]? = some (.str file tf) ∧ ((prog.main.file : Str) == file) = true
structure XiC (K : PySem.W.Frag) (C : Addr) (f : Str) : Prop where
  o : OexC K C
  no : PySem.W.findIn K (.ref C) f = some none
  sup : PySem.W.ks_superIn K C C "__init__" = some (some (.builtin "ValueError.__init__"))
  sub : PySem.W.subIn K (.ref C) (.type "ValueError") = some true
  mro : PySem.W.mroIn K C (.ref C) = some true
  st : PySem.W.nsIn K cStatics "thirdparty.any" = some none
  mem : f ∈ xiL
theorem xi_ne {f : Str} (h : f ∈ xiL) : f ≠ "self" ∧ f ≠ "__class__" ∧ f ≠ "super" := by
  simp only [xiL, List.mem_cons, List.not_mem_nil, or_false] at h
  rcases h with rfl | rfl | rfl | rfl | rfl | rfl <;> decide
theorem xi_bind {qual : Str} {params : Arguments} {body : List Stmt} {scope : Scope} {cc cda : Addr} {doc pm ct : Value} {an : Option Addr} {f : Str} (hm : f ∈ xiL) (h : xiPar params f = true) (us : List Value) (hl : us.length = 2) :
    bindArgs (PySem.W.fnX "__init__" qual params body scope [("__class__", cc)] .none .none doc pm an (.ref cda) ct) ⟨us, []⟩ = pure ((["self", f] : List Str).zip us) := by
  rcases us with _ | ⟨u, _ | ⟨v, _ | ⟨z, us⟩⟩⟩ <;> first | (simp at hl; done) | skip
  unfold xiPar at h
  split at h
  · rename_i a b
    simp only [Bool.and_eq_true, decide_eq_true_eq] at h
    obtain ⟨a1, a2, a3⟩ := a
    obtain ⟨b1, b2, b3⟩ := b
    obtain ⟨rfl, rfl⟩ := h
    simp only [xiL, List.mem_cons, List.not_mem_nil, or_false] at hm
    rcases hm with rfl | rfl | rfl | rfl | rfl | rfl <;> rfl
  · cases h
/-- a method's call on one line, its base's tree told -/
theorem mc_eq {o : Expr} {i : Str} {ap p3 : Pos} {c : Expr} {env : PySem.Env} (hc : notStar0 c = true) (hline : (ap.endLine == p3.line) = true) : eval (.Call (.Attribute o i ap) [c] [] p3) env = (do
      let ov ← attributeBase o i env (eval o env)
      standAt ap.atName
      let (f, first) ← holding [ov] (getMethod ov i (L2.plainOf o env))
      callWith p3 f first (backTo p3 (starEach [c] env)) []) := by
  rw [arm_eval_Call]
  have e : ∀ ov, methodCall o i ap p3 env ov (([c] : List Expr).length + ([] : List Keyword).length) (backTo p3 (starEach [c] env)) (backToKw p3 (keywordEach [] env)) = _ := fun ov => L2.mcall_line (by cases c <;> first | (cases hc; done) | rfl) hline
  simp only [e]
  rfl
/-- its promise: the attribute is kept, in a dict of its own -/
def spXi (C : Addr) (f : Str) : Sp := fun vs H Q _ => ∃ (a : Addr) (v : V), vs = [.ref a, v] ∧ H a = some (exo a C none) ∧ ∀ dx, H dx = none → dx ≠ a → Q .non (upd (upd H dx (exd dx [(f, v)])) a (exo a C (some dx)))
section
variable {P : Program} {w : World} {K : PySem.W.Frag} {mg : Str → Option Value} {base : Heap} {CX : CXT} {C fI : Addr} {f : Str} {fd : FuncData}
theorem xi_scope {sc : Scope} (h : xiScope sc f = true) (hm : f ∈ xiL) : NdefX.NScope ["self", f, "__class__"] ["self", f] ["__class__"] sc := by
  obtain ⟨n1, n2, n3⟩ := xi_ne hm
  simp only [xiScope, Bool.and_eq_true, decide_eq_true_eq, Bool.not_eq_true', List.all_eq_true, bne_iff_ne, Bool.or_eq_true, beq_eq_false_iff_ne] at h
  obtain ⟨⟨⟨⟨⟨⟨⟨⟨h1, h2⟩, h3⟩, h4⟩, h5⟩, h6⟩, h7⟩, h8⟩, h9⟩ := h
  refine ⟨h1, h2, h3, ?_, rfl, fun x hx => ?_, h4, fun y hy e => ?_, fun x hx => ?_⟩
  · simp only [List.nodup_cons, List.mem_cons, List.not_mem_nil, or_false, not_or]
    exact ⟨⟨Ne.symm n1, by decide⟩, n2, fun h => h, List.nodup_nil⟩
  · simp only [List.mem_cons, List.not_mem_nil, or_false] at hx
    rcases hx with rfl | rfl
    · exact h6
    · exact h7
  · rcases h5 y hy with z | z
    · exact absurd e z
    · rw [z]; simp
  · simp only [List.mem_cons, List.not_mem_nil, or_false] at hx
    rw [hx]; exact h8
theorem xi_fn (F : XiF P K C fI f fd) (hm : f ∈ xiL) (hsup : mg "super" = none) (htop : (P.main.scope.names.lookup ("super" : Str)).isSome = false) (hC : XiC K C f) (k : Nat) : FnOk P w K mg base CX (k + 2) fI fd ["self", f] (spXi C f) := by
  obtain ⟨oc, od, qual, params, body, scope, doc, pm, an, cda, ct, osl, cc, rfl, lk, hcd, hp, hb, hs, ⟨ol, ld, lsl, lcc⟩, ol2, ld2, lsl2, vs2, file, tf, lcd, hvs, hfile⟩ := F.ex
  have NS := xi_scope hs hm
  refine ⟨fun vs H Q E q => by obtain ⟨a, v, rfl, _⟩ := q; rfl, fun A outer s H args us vs Q E hr e0 hbi rv hq => ?_⟩
  have KX : K.In s.heap := e0.mod.kin.keeps fun b o e => (e0.bs b o e).1
  have lim : s.heap.NoLimit := e0.mod.nolimit.keeps fun b o e => (e0.bs b o e).1
  have hul : us.length = 2 := by
    obtain ⟨a, v, rfl, _⟩ := hq
    exact rv.length.symm
  let F0 : NdefX.NF := ⟨"__init__", qual, params, body, scope, [("__class__", cc)], cda⟩
  have hcc : H cc = none := (e0.bs cc _ (e0.mod.kin _ _ lcc)).2
  have lk1 : ∀ {y : Str} {c : Addr}, F0.cl.lookup y = some c → y = "__class__" ∧ cc = c := fun {y c} e => by
    have e : List.lookup y [(("__class__" : Str), cc)] = some c := e
    by_cases q : y = "__class__"
    · subst q
      refine ⟨rfl, ?_⟩
      simpa [List.lookup] using e
    · have q2 : (y == ("__class__" : Str)) = false := beq_eq_false_iff_ne.mpr q
      simp [List.lookup, q2] at e
  have cell : s.heap.IsCell cc (some (.ref C)) := ⟨_, KX _ _ lcc, rfl⟩
  have CA : NdefX.CellsAt F0.cl ["__class__"] [some (.ref C)] s.heap H := by
    refine ⟨rfl, fun y c e => ?_, fun x y c e1 e2 => ?_, fun i y e => ?_⟩
    · obtain ⟨_, rfl⟩ := lk1 e
      exact ⟨hcc, _, cell⟩
    · rw [(lk1 e1).1, (lk1 e2).1]
    · cases i with
      | zero =>
        cases e
        refine ⟨cc, by simp [F0, List.lookup], fun v ev => ?_⟩
        cases ev
        exact ⟨_, rfl, cell⟩
      | succ i => simp at e
  have hbody : ∃ p0 p1 ap m j p2 p3 p4 p5 p6 p7 p8, (ap.endLine == p3.line) = true ∧ body = [.Expr (.Call (.Attribute (.Call (.Name "super" p0) [] [] p1) "__init__" ap) [.Constant (.str m) j p2] [] p3) p4, .Assign [.Attribute (.Name "self" p5) f p6] (.Name f p7) p8] := by
    unfold xiBody at hb
    split at hb
    · simp only [Bool.and_eq_true, decide_eq_true_eq] at hb
      obtain ⟨⟨⟨⟨⟨rfl, rfl⟩, rfl⟩, rfl⟩, rfl⟩, hl⟩ := hb
      exact ⟨_, _, _, _, _, _, _, _, _, _, _, _, beq_iff_eq.mpr hl, rfl⟩
    · cases hb
  obtain ⟨p0, p1, ap, m, j, p2, p3, p4, p5, p6, p7, p8, hline, rfl⟩ := hbody
  obtain ⟨a, v, rfl, ha, hq⟩ := hq
  refine PySem.ks_codeAny_call_defAt (hco := NS.co) (hgen := NS.gen) (hk := NS.kind) hr.depth (KX _ _ lk) rfl lim (PySem.W.codeRec_of KX hcd) rfl hbi NS.nocell (fun ⟨n, _⟩ hy => NS.par n (List.of_mem_zip hy).1) (fun h₀ hns hk => ?_)
  have I : Inv (NdefX.ncx CX P w K mg base ["self", f, "__class__"] F0 fI A outer s H E) [] (NdefX.startF ["self", f, "__class__"] [.ref a, v] [some (.ref C)]) H { s with heap := h₀, toks := s.toks + ((["self", f] : List Str).zip us).length } :=
    NdefX.inv_startN NS hr.hd e0 rfl rv CA hns hk
  have KX0 : K.In h₀ := I.kIn
  obtain ⟨nm, qn, Nn, bs, bm, sn, sub, ab, col, dd, k0, k1, k2, k3, k5, hCl, hbm⟩ := hC.o.cls
  obtain ⟨t1, hoa⟩ := exo_at I.hok ha
  have hoa : h₀.get? a = some ({ cls := .ref C, dict := none, data := .fields #[.ref t1, .none, .none, .none, .bool false, .none] } : Obj) := hoa
  have IA : PySem.W.InstAt h₀ a ({ cls := .ref C, dict := none, data := .fields #[.ref t1, .none, .none, .none, .bool false, .none] } : Obj) C none := ⟨hoa, rfl, rfl, trivial⟩
  have hs' := hs
  simp only [xiScope, Bool.and_eq_true, decide_eq_true_eq] at hs'
  obtain ⟨⟨⟨⟨_, hsf⟩, hsg⟩, hsc⟩, hss⟩ := hs'
  have hp' := hp
  have hhead : ∃ ar : Arg, (params.posonlyargs ++ params.args).head? = some ar ∧ ar.arg = "self" := by
    unfold xiPar at hp
    split at hp
    · simp only [Bool.and_eq_true, decide_eq_true_eq] at hp
      exact ⟨_, rfl, hp.1⟩
    · cases hp
  obtain ⟨ar, hh, har⟩ := hhead
  have hint : interactive (NdefX.envF F0 fI s.heap.objs.size) = false := by
    unfold interactive
    show (scope.kind == .module && _) = false
    rw [NS.kind]
    rfl
  refine PySem.ks_wpAt_execs_cons (PySem.ks_wpAt_Expr_any (hi := hint) (PySem.ks_wpAt_MethodCall (he := mc_eq rfl hline) (PySem.ks_wpAt_super_base (env := NdefX.envF F0 fI s.heap.objs.size) hss hsc (by decide) rfl (KX0 _ _ lk) rfl hh rfl (KX0 _ _ lcd) rfl hvs hfile htop ?_)))
  obtain ⟨mb, hmb, hbt⟩ := e0.mod.blt
  have bk : ∀ b o, base.get? b = some o → h₀.get? b = some o := fun b o e => hk b o (e0.bs b o e).1
  refine PySem.W.ks_loadName_global (env := NdefX.envF F0 fI s.heap.objs.size) NS.kind hss (PySem.Calls.loadGlobal_builtin (env := NdefX.envF F0 fI s.heap.objs.size) (e0.mod.glob.keeps bk) hsup (hmb.keeps bk) ((hbt _ (by decide)).trans (by decide +kernel)) ⟨rfl, ?_⟩)
  refine wpAny_loadName_free (env := NdefX.envF F0 fI s.heap.objs.size) NS.kind hsc rfl ⟨_, KX0 _ _ lcc, rfl⟩ ?_
  rw [har]
  have hself : ((["self", f] : List Str).zip us).reverse.lookup ("self" : Str) = some (Value.ref a) := by
    rcases us with _ | ⟨u, _ | ⟨u2, _ | ⟨z, us⟩⟩⟩ <;> first | (simp at hul; done) | skip
    have e : u = Value.ref a := by
      cases rv with
      | cons r1 _ => exact r1
    have q : (("self" : Str) == f) = false := beq_eq_false_iff_ne.mpr (Ne.symm (xi_ne hm).1)
    simp [List.lookup, q, e]
  refine wpAny_loadName_local (env := NdefX.envF F0 fI s.heap.objs.size) NS.kind hsf hns hself ?_
  refine PySem.ks_wpAny_isType_cls (KX0 _ _ hCl) rfl ⟨rfl, ?_⟩
  refine PySem.ks_wpAny_call_super (KX0 _ _ hCl) rfl hoa rfl (fun c e => by cases e) (PySem.W.looks_mroIn KX0 hC.mro) (fun h1 es1 ks1 => ?_)
  have I1 := I.kept (h' := h1) (t' := s.toks + ((["self", f] : List Str).zip us).length) ks1
  have KX1 : K.In h1 := I1.kIn
  have hcl : PySem.W.clsIn K C = some { name := nm, bases := bs, mro := .ref C :: bm, ns := Nn, qualname := qn, hasDict := true, slotNames := sn, subclasses := sub, abstract := ab, collection := col, hasDel := false } := by unfold PySem.W.clsIn; rw [hCl] <;> rfl
  have IA1 : PySem.W.InstAt h1 a ({ cls := .ref C, dict := none, data := .fields #[.ref t1, .none, .none, .none, .bool false, .none] } : Obj) C none := ⟨ks1 _ _ hoa, rfl, rfl, trivial⟩
  have hsupp := hC.sup
  unfold PySem.W.ks_superIn at hsupp
  rw [hcl] at hsupp
  refine PySem.W.kxs_getMethod PySem.W.kxs_ValueError es1 (PySem.W.looks_opaque KX1 hC.st) ((PySem.W.looks_clsIn KX1 hcl).andThen .now) rfl KX1 hsupp (IA1.type.andThen (PySem.W.looks_subIn KX1 hC.sub)) (PySem.W.ks_ne KX1 IA1 hcl) (by decide) ?_
  have pu : ∀ b o, h1.get? b = some o → (h1.push (PySem.W.kxs_mw "ValueError.__init__" a)).get? b = some o := fun b o e => Heap.get?_push_of_some _ e
  have I2 := I1.kept (h' := h1.push (PySem.W.kxs_mw "ValueError.__init__" a)) (t' := s.toks + ((["self", f] : List Str).zip us).length + 1) pu
  have hmw : (h1.push (PySem.W.kxs_mw "ValueError.__init__" a)).get? h1.objs.size = some (PySem.W.kxs_mw "ValueError.__init__" a) := Heap.get?_push_size _ rfl
  refine PySem.W.kxs_callWith (i := "ValueError.__init__") (x := a) rfl ?_
  show wpAny _ _ (evalArgs (.ref h1.objs.size) true ((false, eval (.Constant (.str m) j p2) (NdefX.envF F0 fI s.heap.objs.size)) :: backTo p3 (starEach [] (NdefX.envF F0 fI s.heap.objs.size))) []) _ _ _
  refine PySem.Calls.evalArgs_plain ?_
  refine PySem.Calls.spliced_cons ?_
  refine PySem.Calls.Constant_str ?_
  refine PySem.Calls.spliced_nil ⟨hmw, ?_⟩
  -- the bound __init__ is called: the args are laid anew
  have hoa2 : (h1.push (PySem.W.kxs_mw "ValueError.__init__" a)).get? a = some ({ cls := .ref C, dict := none, data := .fields #[.ref t1, .none, .none, .none, .bool false, .none] } : Obj) := pu _ _ (ks1 _ _ hoa)
  refine wpAny_call (codeAny_of_tree ?_)
  show wpAny _ (Around.in1 _) (callAny (.ref h1.objs.size) ⟨_, []⟩) _ _ _
  simp only [callAny]
  refine wpAny_bind (wpAny_load hmw ?_)
  simp only [PySem.W.kxs_mw, show (Value.type "method-wrapper" == Value.type "method" || Value.type "method-wrapper" == Value.type "builtin_function_or_method" || Value.type "method-wrapper" == Value.type "method-wrapper") = true by decide, if_true]
  refine PySem.W.KFB.if_so (by decide) ?_
  refine wpAny_bind (PySem.W.check_bound_init PySem.F.excBase_ValueError.toExcCallFacts (I2.kIn _ _ hCl) hoa2 rfl ?_)
  refine wpAny_bind (wpAny_pure (wpAny_pure ?_))
  refine ⟨PySem.plainId_quiet PySem.F.excBase_ValueError.init.plain _, codeAny_builtin PySem.F.excBase_ValueError.initEntry ?_⟩
  refine PySem.W.exc_init_tree (cls := .ref C) (t0 := t1) (dv := none) (c2 := .none) (c3 := .none) (b4 := .bool false) hoa2 (by show 1 ≤ sizeLine; rw [sizeLine_eq]; omega) (fun h2 k2 e2 _ => ?_)
  have I3 := I2.write (t' := s.toks + ((["self", f] : List Str).zip us).length + 1 + 1) (x := a) (e := a) (o := exo a C none) (by rw [ha]; exact True.intro) (.inl rfl) k2 ⟨_, e2⟩ (exo_ok e2)
  have eu : upd H a (exo a C none) = H := by
    funext b
    by_cases hb2 : b = a
    · rw [hb2, upd_same, ha]
    · rw [upd_ne hb2]
  rw [eu] at I3
  have NX : (NdefX.ncx CX P w K mg base ["self", f, "__class__"] F0 fI A outer s H E).N = (["self", f, "__class__"] : List Str) := rfl
  have hfd : (f == ("__debug__" : Str)) = false ∧ (f == ("__classdict__" : Str)) = false := by
    have hm2 := hm
    simp only [xiL, List.mem_cons, List.not_mem_nil, or_false] at hm2
    rcases hm2 with rfl | rfl | rfl | rfl | rfl | rfl <;> decide
  have PP : PSs (NdefX.ncx CX P w K mg base ["self", f, "__class__"] F0 fI A outer s H E) [.Assign [.Attribute (.Name "self" p5) f p6] (.Name f p7) p8] _ :=
    pss_one (ps_ost (pe_var (i := 0) rfl (.inl hsf) (by decide) (by decide)) (pe_var (i := 1) rfl (.inl hsg) hfd.1 hfd.2))
  have RD := PP.run [] _ _ _ { nx := fun _ H' => Q .non H', rt := Q, bk := fun _ _ => False, ct := fun _ _ => False } I3 ?_
  · refine wpAt_of_wpAny (wpAny_mono RD (fun fl s' hs => ?_) fun e s' hs => hs)
    have fin : ∀ {σ' : L2.St} {H' : Hp} {v : V} {u : Value}, Inv (NdefX.ncx CX P w K mg base ["self", f, "__class__"] F0 fI A outer s H E) [] σ' H' s' → L2.RelV v u → Q v H' → CE outer P w H s Q u s' :=
      fun {σ' H' v u} J rv q => ⟨v, H', J.os, J.bare, J.base, J.hok, rv, q⟩
    cases fl with
    | ret u =>
      obtain ⟨v, σ', H', J, rv, q⟩ := hs
      exact fin J rv q
    | next =>
      obtain ⟨σ', H', J, q⟩ := hs
      exact fin (v := V.non) (u := Value.none) J rfl q
    | brk =>
      obtain ⟨_, _, _, q⟩ := hs
      exact False.elim q
    | cont =>
      obtain ⟨_, _, _, q⟩ := hs
      exact False.elim q
  · exact ⟨v, rfl, .ref a, rfl, a, C, rfl, hC.o, hC.no, .inl ⟨ha, fun dx hn hne => hq dx hn hne⟩⟩
end
end Ip

set_option Elab.async false
set_option linter.all false
set_option maxRecDepth 100000
set_option maxHeartbeats 1000000
/-! IpXi2: such an exception as a value, its attribute read. -/
namespace Ip
open PySem PySem.Spec PyProof.Rows L2
section
variable {X : Cx} {C fI : Addr} {f : Str} {fd : FuncData}
theorem ex_ne_tbl {cls : Value} {d : Option Addr} {a : Addr} (ps : Array Value) : EX cls d a ≠ .tbl ps := fun z => by
  unfold EX at z
  cases z
/-- the end of C(e): the exception stands, its dict as an exception's dict -/
theorem xi_end {pins : List (Addr × Obj)} {σ : L2.St} {H1 : Hp} {hp hp2 h2 : Heap} {g1 g2 : Array GenState} {d1 d2 : Drawn} {t1 t2 : Nat} {os1 os2 : OsState} {a d : Addr} {v : V} (I1 : Inv X pins σ H1 ⟨hp, g1, d1, t1, os1⟩)
    (ha : hp.objs.size ≤ a) (k : ∀ b o, hp.get? b = some o → hp2.get? b = some o) (un : Un (frs X.stack) [] (upd H1 a (exo a C none)) (upd (upd (upd H1 a (exo a C none)) d (exd d [(f, v)])) a (exo a C (some d))) hp2 h2)
    (hok : HOk X.prog X.w (upd (upd (upd H1 a (exo a C none)) d (exd d [(f, v)])) a (exo a C (some d))) h2) (ho : os2 = os1) (hb : AllBare g2) (hd1 : H1 d = none) (hda : d ≠ a) :
    Inv X pins σ (upd (upd H1 d (.xd [(f, v)])) a (EX (.ref C) (some d) a)) ⟨h2, g2, d2, t2, os2⟩ := by
  have hn : H1 a = none := I1.hok.fresh ha
  obtain ⟨t0, hoe⟩ := exo_at hok (show upd (upd (upd H1 a (exo a C none)) d (exd d [(f, v)])) a (exo a C (some d)) a = some (exo a C (some d)) from upd_same)
  obtain ⟨mA, hns, rel⟩ := exd_at (dx := d) (fs := [(f, v)]) hok (by rw [upd_ne hda, upd_same])
  have nha : ∀ {b : Addr} {o : Obj}, hp.get? b = some o → b ≠ a := fun {b o} z => Nat.ne_of_lt (Nat.lt_of_lt_of_le (Heap.lt_size z) ha)
  have up : ∀ {b : Addr}, b ≠ a → H1 b = none → upd H1 a (exo a C none) b = none := fun {b} hb n => by rw [upd_ne hb]; exact n
  have nd : ∀ {b : Addr} {o : Obj}, hp.get? b = some o → H1 b = none → b ≠ d := fun {b o} z n e => by
    have y := un.free b o (k b o z) (up (nha z) n) (by simp)
    rw [upd_ne (nha z), e, upd_same] at y
    cases y
  have old : ∀ {b : Addr} {o : HO}, H1 b = some o → upd (upd H1 d (.xd [(f, v)])) a (EX (.ref C) (some d) a) b = some o := fun {b o} e => by
    rw [upd_ne (ne_of_none e hn), upd_ne (ne_of_none e hd1)]; exact e
  have U : Un (frs X.stack) [] H1 (upd (upd H1 d (.xd [(f, v)])) a (EX (.ref C) (some d) a)) hp h2 := {
    keep := fun b o z n hf hx => un.keep b o (k b o z) (up (nha z) n) hf hx
    slot := fun b o z n hf hx => un.slot b o (k b o z) (up (nha z) n) hf hx
    free := fun b o z n hx => by rw [upd_ne (nha z), upd_ne (nd z n)]; exact n
    there := fun b o z hx => un.there b o (k b o z) hx
    tups := fun b xs z => old z
    frzs := fun b o v z => old z
    tbls := fun b ps z => ⟨#[], by rw [old z]; simp⟩ }
  refine I1.call' (ch := []) ho U (fun b o z => ?_) hb (fun b z => absurd z (by simp))
  by_cases hba : b = a
  · subst hba
    rw [upd_same] at z
    cases z
    exact ex_ok hoe ⟨rfl, rfl⟩ rfl
  · rw [upd_ne hba] at z
    by_cases hbd : b = d
    · subst hbd
      rw [upd_same] at z
      cases z
      exact ⟨mA, hns, rel⟩
    · rw [upd_ne hbd] at z
      refine (hok b o (by rw [upd_ne hba, upd_ne hbd, upd_ne hba]; exact z)).stay (fun c w _ q => q) (fun c q => ?_) fun c xs q => ?_
      · by_cases c1 : c = a
        · rw [c1, upd_same] at q
          exact absurd (Option.some.inj q) exo_own
        · rw [upd_ne c1] at q
          by_cases c2 : c = d
          · rw [c2, upd_same] at q
            exact absurd (Option.some.inj q) exd_own
          · rw [upd_ne c2, upd_ne c1] at q
            exact old q
      · by_cases c1 : c = a
        · rw [c1, upd_same] at q
          exact absurd (Option.some.inj q) exo_tup
        · rw [upd_ne c1] at q
          by_cases c2 : c = d
          · rw [c2, upd_same] at q
            exact absurd (Option.some.inj q) exd_tup
          · rw [upd_ne c2, upd_ne c1] at q
            exact old q
/-- C(e) as a value -/
theorem pe_xi {x : Str} {e : Expr} {ta : TE} {k : Nat} {p pos : Pos} (F : XiF X.prog X.K C fI f fd) (T : XiC X.K C f) (iC : PySem.W.findIn X.K (.ref C) "__init__" = some (some (.ref fI))) (tI : PySem.W.typeIn X.K (.ref fI) = some (.type "function"))
    (hsup : X.mg "super" = none) (htop : (X.prog.main.scope.names.lookup ("super" : Str)).isSome = false) (hr : Room (k + 3) X.A) (hg : Gl X x) (hm : X.mg x = some (.ref C)) (he : PE X e ta) (hs : starEach [e] X.env = (false, eval e X.env) :: starEach [] X.env) (hdb : (x == ("__debug__" : Str)) = false) :
    PE X (.Call (.Name x p) [e] [] pos) (fun σ H Q => ta σ H fun v H1 => ∀ d a, H1 d = none → H1 a = none → d ≠ a → Q (.ref a) (upd (upd H1 d (.xd [(f, v)])) a (EX (.ref C) (some d) a))) := by
  refine ⟨fun pins s σ H Q I h => ?_⟩
  obtain ⟨nm, q, N, bs, bm, sn, sub, ab, col, dd, k0, k1, k2, k3, k5, hC, hbm⟩ := T.o.cls
  refine wpAny_Call_Name_kw (ld_glob I hg hm ?_ hdb)
  refine PySem.W.callWith_K (h₀ := X.base) I.ok.mod.kin T.o.kC ?_ hs (by rfl)
  rw [hs]
  show wpAny _ _ (spliced ((false, eval e X.env) :: backTo pos (starEach [] X.env))) _ _ s
  refine Calls.spliced_cons (thn (he.run pins s σ H _ I h) fun u s1 ⟨v, H1, I1, r1, q1⟩ => ?_)
  refine Calls.spliced_nil ⟨I1.kIn, ?_⟩
  show wpAny _ _ (call (.ref C) [u]) _ _ _
  obtain ⟨hp, g, dr, tk, os⟩ := s1
  have hsz : hp.objs.size ≤ hp.objs.size + 1 := Nat.le_succ _
  have kk : ∀ b o, hp.get? b = some o → ((hp.push (PySem.W.kdv_tup [u])).push (PySem.HandSPX.excO C hp.objs.size)).get? b = some o := fun b o e => Heap.get?_push_of_some _ (Heap.get?_push_of_some _ e)
  have hget : ((hp.push (PySem.W.kdv_tup [u])).push (PySem.HandSPX.excO C hp.objs.size)).get? (hp.objs.size + 1) = some (PySem.HandSPX.excO C hp.objs.size) := by heap_get
  have I2 : Inv X pins σ (upd H1 (hp.objs.size + 1) (exo (hp.objs.size + 1) C none)) ⟨(hp.push (PySem.W.kdv_tup [u])).push (PySem.HandSPX.excO C hp.objs.size), g, dr, tk, os⟩ :=
    I1.laid (t' := tk) (a := hp.objs.size + 1) (o := exo (hp.objs.size + 1) C none) (h' := (hp.push (PySem.W.kdv_tup [u])).push (PySem.HandSPX.excO C hp.objs.size)) kk hsz (exo_ok hget)
  have F1 : FnOk X.prog X.w X.K X.mg X.base CX0 (k + 2) fI fd ["self", f] (spXi C f) := xi_fn F T.mem hsup htop T k
  have r2 : Vals [V.ref (hp.objs.size + 1), v] [Value.ref (hp.objs.size + 1), u] := .cons rfl (.cons r1 .nil)
  have hb : BindsTo ⟨(hp.push (PySem.W.kdv_tup [u])).push (PySem.HandSPX.excO C hp.objs.size), g, dr, tk, os⟩ fd ⟨[Value.ref (hp.objs.size + 1), u], []⟩ ((["self", f] : List Str).zip [Value.ref (hp.objs.size + 1), u]) := by
    obtain ⟨oc, od, qual, params, body, scope, doc, pm, an, cda, ct, osl, cc, rfl, _, _, hpar, _⟩ := F.ex
    exact .of_eq (xi_bind T.mem hpar _ rfl)
  refine wpAny_call (PySem.HandSPX.call_own PySem.F.excBase_ValueError (fun Y => PySem.HandSPX.refsVE_contains Y bm hbm) (I1.kIn _ _ hC) (PySem.W.looks_findIn I1.kIn iC) (fun self => PySem.W.bind_fn I1.kIn self tI) (by show 1 ≤ sizeLine; rw [sizeLine_eq]; omega)
    (codeAny_mono (F1.run _ X.stack _ _ ⟨[Value.ref (hp.objs.size + 1), u], []⟩ [Value.ref (hp.objs.size + 1), u] _ (fun w H2 => w = .non ∧ ∃ d, H1 d = none ∧ d ≠ hp.objs.size + 1 ∧ H2 = upd (upd (upd H1 (hp.objs.size + 1) (exo (hp.objs.size + 1) C none)) d (exd d [(f, v)])) (hp.objs.size + 1) (exo (hp.objs.size + 1) C (some d))) (fun _ _ _ => False)
      (hr.make C [u] []) (I2.env0.make C [u] []) hb r2 ⟨_, v, rfl, upd_same, fun dx hn hne => ⟨rfl, dx, by rw [upd_ne hne] at hn; exact hn, hne, rfl⟩⟩) fun r s' hq' => ?_))
  cases r with
  | error er => exact (pass0 (X := X) pins σ _ _ er s' I2 hq')
  | ok fl =>
    cases fl with
    | ret u2 =>
      obtain ⟨v2, H2, os2, bare2, un2, hok2, rv, ev, d, hd1, hda, eH⟩ := hq'
      subst ev
      subst eH
      obtain ⟨h2, g2, d2, t2, os'⟩ := s'
      exact ⟨rv, V.ref (hp.objs.size + 1), _, xi_end I1 hsz kk un2 hok2 os2 bare2 hd1 hda, rfl, q1 d (hp.objs.size + 1) hd1 (I1.hok.fresh hsz) hda⟩
    | next => exact False.elim hq'
    | brk => exact False.elim hq'
    | cont => exact False.elim hq'
/-- e.f, e such an exception -/
theorem pe_xattr {e : Expr} {te : TE} {pos : Pos} {n : Str} (he : PE X e te) (hb : attributeBase e n X.env (eval e X.env) = eval e X.env) :
    PE X (.Attribute e n pos) (fun σ H Q => te σ H fun x H1 => ∃ (a C d : Addr) (fs : List (Str × V)) (v : V), x = .ref a ∧ XfC X.K C ∧ PySem.W.findIn X.K (.ref C) n = some none ∧ H1 a = some (EX (.ref C) (some d) a) ∧ H1 d = some (.xd fs) ∧ fs.lookup n = some v ∧ Q v H1) := by
  refine ⟨fun pins s σ H Q I h => ?_⟩
  refine attr_of hb (thn (he.run pins s σ H _ I h) fun u s1 hh => ?_)
  obtain ⟨x, H1, I1, rx, a, C, d, fs, v, rfl, T, hno, ha, ed, l, q⟩ := hh
  obtain rfl : u = Value.ref a := rx
  obtain ⟨⟨oe, vs, hoe, hz, hd⟩, _, _⟩ := I1.hok a _ ha
  have hx : ObjOk X.prog X.w H1 s1.heap d (.xd fs) := I1.hok d _ ed
  obtain ⟨mA, hns, hr⟩ := hx
  obtain ⟨od, ho, hl⟩ := lookIn_ns hns
  obtain ⟨u, hu, ru⟩ := RelO.some_of (v := v) (o := mA n) (by rw [← l]; exact hr n)
  have J : PySem.W.InstAt s1.heap a oe C (some od) := ⟨hoe, hz.1, by unfold PySem.W.notCls; rw [hd] <;> rfl, by rw [hz.2]; exact ho⟩
  exact HandSPX.exc_get I1.kIn J T.ga T.gg T.exC (PySem.W.findObj_own T.hdC hno rfl (by rw [hl, hu])) (handed_of ru) ⟨v, H1, I1.tok _, ru, q⟩
end
end Ip
namespace PySem.W
open PySem PySem.Spec PySem.Calls PyProof.Rows
section
variable {prog : Program} {w : World} {A : Around} {E : Value → Shared → Prop} {s : Shared} {K : Frag} {x D : Addr} {ox : Obj} {od : Option Obj}
/-- a data descriptor is found ahead of the object's own dict -/
theorem xi_findObj {C : Addr} {name : Str} {a g : Value} (hc : (clsIn K C).isSome = true) (ha : findIn K (.ref C) name = some (some a)) (hg : specialIn K a "__get__" = some (some g)) (ht : takesIn K a = some true) : findObj K C od name = some (.bind g a) := by
  obtain ⟨cd, hc⟩ := Option.isSome_iff_exists.mp hc
  unfold findObj
  rw [hc, Option.bind_some, ha, Option.bind_some]
  simp [hg, ht]
theorem xi_class {Q : Option Value → Shared → Prop} (hc : L2.ExcC K D) (X : K.In s.heap) (I : InstAt s.heap x ox D od) (h : Q (some (.ref D)) { s with toks := s.toks + 1 }) : wpAny (model prog w) A (getAttr? (.ref x) "__class__") Q E s := by
  have ff : findObj K D od "__class__" = some (.bind (.builtin "getset_descriptor.__get__") (.builtin "object.__class__")) := xi_findObj (by obtain ⟨cd, hcd, _⟩ := any_some hc.hd; rw [hcd]; rfl) hc.ha hc.hn hc.ht
  obtain ⟨hp, gs, dr, tk, os⟩ := s
  have T0 := I.type (M := model prog w)
  have T1 := looks_findIn (M := model prog w) X hc.hg
  have T2 := looks_findIn (M := model prog w) X hc.hk
  have T3 := looks_find (M := model prog w) X I ff
  have sub : Looks (model prog w) hp (isInstance (.ref x) (.type "BaseException")) true := T0.andThen (looks_subIn X hc.hs)
  have n2 : (Value.builtin "BaseException.__getattribute__" == Value.builtin "object.__getattribute__") = false := by decide +kernel
  have n1 : (onTheHeap (Value.ref D) && Value.builtin "BaseException.__getattribute__" == Value.builtin "object.__getattribute__") = false := by rw [n2]; rfl
  unfold getAttr? getAttrBy? getAttrBy
  refine wpAny_bind (wpAny_mkText (wpAny_bind (wpAny_attempt (wpAny_holding (wpAny_bind (T0.at (wpAny_bind (T1.at ?_))))))))
  show wpAny _ _ (if (onTheHeap (Value.ref D) && Value.builtin "BaseException.__getattribute__" == Value.builtin "object.__getattribute__") = true then _ else _) _ _ _
  rw [n1, if_neg Bool.false_ne_true]
  unfold getAttrByItsOwn hookBefore
  refine wpAny_bind ?_
  rw [if_pos (show onTheHeap (Value.ref D) = true from rfl)]
  refine T2.at ?_
  refine wpAny_bind (wpAny_attempt (wpAny_holding ?_))
  unfold callGetattribute
  rw [show (false && onTheHeap (Value.builtin "BaseException.__getattribute__")) = false from rfl, if_neg Bool.false_ne_true]
  unfold boundAndCalled
  rw [PySem.F.excAttr_ValueError.ga.bind (.ref x)]
  refine wpAny_bind (wpAny_pure ?_)
  show wpAny _ _ (call (.builtin "BaseException.__getattribute__") [.ref x, .str "__class__" tk]) _ _ _
  refine wpAny_call (codeAny_call_builtin PySem.F.excAttr_ValueError.ga.plain PySem.F.entry_bexc_ga ?_)
  refine @check_slot (model prog w) _ _ ⟨hp, gs, dr, tk + 1, os⟩ "BaseException.__getattribute__" "BaseException" "__getattribute__" (.ref x) [.str "__class__" tk] [] _ (by decide +kernel) (by decide +kernel) sub (PySem.F.args_bexc_ga (.ref x) (.str "__class__" tk)) ?_
  unfold Builtin.«object.__getattribute__»
  refine wpAny_bind (wpAny_of_eq (a := ((Value.ref x : Value), [Value.str "__class__" tk])) (by first | rfl | (simp only [slotArgs]; rfl)) ?_)
  refine wpAny_bind (wpAny_pure (wpAny_bind (T0.at (wpAny_bind (T3.at ?_)))))
  show wpAny _ _ (holding [Value.builtin "object.__class__"] (call (.builtin "getset_descriptor.__get__") [.builtin "object.__class__", .ref x, .ref D]) >>= ret) _ _ _
  refine wpAny_bind (wpAny_holding (wpAny_call (class_get (s := ⟨hp, gs, dr, tk + 1, os⟩) (ox := ox) (od := od) X I hc.hm ?_)))
  refine wpAny_pure ?_
  show wpAny _ _ (handedOut (.ref D)) _ _ _
  rw [handedOut_of (v := .ref D) rfl]
  first
    | exact wpAny_pure (wpAny_pure h)
    | exact wpAny_pure h
    | exact wpAny_pure (wpAny_bind (wpAny_pure (wpAny_pure h)))
theorem xi_kitx (hc : L2.ExcC K D) : KitX K (.ref x) (.ref D) (fun h => InstAt h x ox D od) where
  ty := fun _ _ _ I => I.type
  it := fun _ _ X _ => by
    obtain ⟨cdD, hcD, _⟩ := any_some hc.hd
    unfold clsIn at hcD
    split at hcD
    · rename_i c' d' cd' sl' ho
      intro A' Q' E' s' k q
      unfold isType loadHead
      exact wpAny_bind (wpAny_loadPart (k _ _ (X _ _ ho)) (wpAny_pure q))
    · cases hcD
  ne := fun h tp dd its n sl X htp => by
    obtain ⟨cdD, hcD, _⟩ := any_some hc.hd
    refine Bool.eq_false_iff.mpr fun q => ?_
    have e : D = tp := Value.ref.inj (beq_iff_eq.mp q)
    subst e
    unfold clsIn at hcD
    split at hcD
    · rename_i c' d' cd' sl' ho
      have z := (X _ _ ho).symm.trans htp
      cases z
    · cases hcD
  ca := fun X I k => xi_class hc X I k
end
end PySem.W
namespace Ip
open PySem PySem.Spec PyProof.Rows L2
/-- isinstance of an exception's object with a dict -/
def rIsX2 (K : PySem.W.Frag) : List V → Hp → VK → Prop := fun xs H Q => ∃ (a D d : Addr) (c : V) (cv : Value) (fs : List (Str × V)) (b : Bool), xs = [.ref a, c] ∧ (∀ u, L2.RelV c u → u = cv) ∧ H a = some (EX (.ref D) (some d) a) ∧ H d = some (.xd fs) ∧ ExcC K D ∧ PySem.W.kitOne K (.ref D) cv = some b ∧ Q (.bl b) H
theorem call_isX2 {X : Cx} : CallR X (.builtin "isinstance") (rIsX2 X.K) := by
  intro pins s σ H xs us Q I r h
  obtain ⟨a, D, d, c, cv, fs, b, rfl, hcv, ha, hd0, hc, e, q⟩ := h
  obtain ⟨u1, u2, rfl, r1, r2⟩ := vals2 r
  cases (show u1 = Value.ref a from r1)
  cases hcv _ r2
  obtain ⟨⟨oe, vs, ho, hz, hd⟩, _, _⟩ := I.hok a _ ha
  obtain ⟨mA, ⟨od, es, ep, hod, _⟩, _⟩ : ObjOk X.prog X.w H s.heap d (.xd fs) := I.hok d _ hd0
  have N : PySem.W.InstAt s.heap a oe D (some od) := ⟨ho, hz.1, by unfold PySem.W.notCls; rw [hd] <;> rfl, by rw [hz.2]; exact hod⟩
  exact PySem.W.kia_one (PySem.W.xi_kitx hc) I.kIn N e (fun z => by cases z <;> cases r2) fun tk => ⟨.bl b, H, I.tok tk, rfl, q⟩
/-- the same, without a dict -/
def rIsX1 (K : PySem.W.Frag) : List V → Hp → VK → Prop := fun xs H Q => ∃ (a D : Addr) (c : V) (cv : Value) (b : Bool), xs = [.ref a, c] ∧ (∀ u, L2.RelV c u → u = cv) ∧ ExAt H (.ref D) a ∧ ExcC K D ∧ PySem.W.kitOne K (.ref D) cv = some b ∧ Q (.bl b) H
theorem call_isX1 {X : Cx} : CallR X (.builtin "isinstance") (rIsX1 X.K) := by
  intro pins s σ H xs us Q I r h
  obtain ⟨a, D, c, cv, b, rfl, hcv, ha, hc, e, q⟩ := h
  obtain ⟨u1, u2, rfl, r1, r2⟩ := vals2 r
  cases (show u1 = Value.ref a from r1)
  cases hcv _ r2
  obtain ⟨oe, vs, ho, hz, hd⟩ : ∃ (oe : Obj) (vs : Array Value), s.heap.get? a = some oe ∧ Zc (.ref D) none oe ∧ oe.data = .fields vs := by
    rcases ha with ha | ha
    · obtain ⟨⟨oe, vs, ho, hz, hd⟩, _, _⟩ := I.hok a _ ha
      exact ⟨oe, vs, ho, hz, hd⟩
    · obtain ⟨⟨oe, vs, ho, hz, hd, _⟩, _, _⟩ := I.hok a _ ha
      exact ⟨oe, vs, ho, hz, hd⟩
  have N : PySem.W.InstAt s.heap a oe D none := ⟨ho, hz.1, by unfold PySem.W.notCls; rw [hd] <;> rfl, by rw [hz.2]; trivial⟩
  exact PySem.W.kia_one (PySem.W.xi_kitx hc) I.kIn N e (fun z => nomatch z) fun tk => ⟨.bl b, H, I.tok tk, rfl, q⟩
end Ip

set_option Elab.async false
set_option linter.all false
set_option maxRecDepth 100000
set_option maxHeartbeats 2000000
/-! IpXk: such an exception made by keyword. -/
namespace PySem
namespace HandSPX
section
variable {M : Model} {A : Around} {E : Value → Shared → Prop} {h : Heap} {g : Array GenState} {d : Drawn} {t : Nat} {os : OsState}
variable {nm q : Str} {C N : Addr} {bs bm bmB : List Value} {hdct : Bool} {sn : List Str} {sub : List Value} {ab : Bool} {col : Option Bool} {dd : Option Addr} {k0 k1 k2 k3 k5 : Option Value} {B newId initId : String}
theorem xk_check_type {M : Model} {rest : List Value} {kw : List (Str × Value)} {Q : Unit → Shared → Prop} (hC : h.get? C = some (excClassObj nm q C N bs bm hdct sn sub ab col dd k0 k1 k2 k3 k5 newId))
    (hq : Q () ⟨h, g, d, t, os⟩) : wpAny M A (checkBuiltinCall "type.__call__" ⟨.ref C :: rest, kw⟩) Q E ⟨h, g, d, t, os⟩ := by
  have f3 := tc_sub
  have hT : (⟨h, g, d, t, os⟩ : Shared).TypeIs (.ref C) "type" := ⟨_, hC, rfl⟩
  simp only [checkBuiltinCall, tc_kind, tc_split]
  repeat (any_goals (first | assumption | with_reducible refine wpAny_loadPart_at hC ?_ | with_reducible refine wpAny_onRaise ?_ | with_reducible refine wpAny_map ?_ | wp_step))
theorem xk_check_new (F : ExcBaseFacts B newId initId bmB) (hT : ∀ X : String, bm.contains (.type X) = bmB.contains (.type X)) {rest : List Value} {kw : List (Str × Value)} {Q : Unit → Shared → Prop}
    (hC : h.get? C = some (excClassObj nm q C N bs bm hdct sn sub ab col dd k0 k1 k2 k3 k5 newId)) (hq : Q () ⟨h, g, d, t, os⟩) : wpAny M A (checkBuiltinCall newId ⟨.ref C :: rest, kw⟩) Q E ⟨h, g, d, t, os⟩ := by
  have hcont : (Value.ref C :: bm).contains (.type B) = true := by rw [List.contains_cons, hT, F.hasB, Bool.or_true]
  have hstar := F.noStar
  simp only [checkBuiltinCall, F.newKind, F.newSplit, F.newRow]
  repeat (first | refine wpAny_loadPart_at hC ?_ | (refine wpAny_isSubtype_exc hC ?_; rw [hcont]) | refine wpAny_staticBase_exc hC ?_ | refine wpAny_madeBy_exc hC ?_ | simp only [bne_self_eq_false, Bool.false_eq_true, if_false] | wp_step)
  exact hq
end
section
variable {prog : Program} {w : World} {A : Around} {E : Value → Shared → Prop} {R : Result → Shared → Prop} {h : Heap} {g : Array GenState} {d : Drawn} {t : Nat} {os : OsState}
variable {nm q : Str} {C N : Addr} {bs bm bmB : List Value} {hdct : Bool} {sn : List Str} {sub : List Value} {ab : Bool} {col : Option Bool} {dd : Option Addr} {k0 k1 k2 k3 k5 : Option Value} {B newId initId : String}
theorem xk_new (F : ExcBaseFacts B newId initId bmB) (hT : ∀ X : String, bm.contains (.type X) = bmB.contains (.type X)) {rest : List Value} {kw : List (Str × Value)}
    (hC : h.get? C = some (excClassObj nm q C N bs bm hdct sn sub ab col dd k0 k1 k2 k3 k5 newId))
    (hq : R (.ok (.ret (.ref (h.objs.size + 1)))) ⟨(h.push { cls := .type "tuple", data := .seq rest.toArray }).push
      { cls := .ref C, data := .fields #[.ref h.objs.size, .none, .none, .none, .bool false, .none] }, g, d, t, os⟩) (hrest : rest.length ≤ sizeLine) :
    codeAny (model prog w) A (.builtin newId ⟨.ref C :: rest, kw⟩) R ⟨h, g, d, t, os⟩ := by
  have hends := F.ends
  have hcB : (Value.ref C :: bm).contains (.type B) = true := by rw [List.contains_cons, hT, F.hasB, Bool.or_true]
  have hcA : (Value.ref C :: bm).contains (.type "AttributeError") = false := by rw [List.contains_cons, hT, F.noAttr]; rfl
  have hcN : (Value.ref C :: bm).contains (.type "NameError") = false := by rw [List.contains_cons, hT, F.noName]; rfl
  refine codeAny_builtinAt F.entry ?_
  unfold Builtin.«BaseException.__new__»
  refine wpAt_bind ?_
  show wpAt _ _ _ (stack >>= _) _ _ _
  refine wpAt_bind (wpAt_stack fun p below => wpAt_of_wpAny ?_)
  wp_walk
  refine wpAt_of_wpAny ?_
  rw [F.owner]
  repeat (first | with_reducible refine wpAny_madeHere_exc F.canon hC ?_ | with_reducible refine wpAny_loadPart_at hC ?_ | (with_reducible refine wpAny_isSubtype_exc hC ?_; first | rw [hcB] | rw [hcA] | rw [hcN]) | wp_step)
  show R _ _
  rw [Heap.size_push]
  exact hq

theorem xk_type (F : ExcBaseFacts B newId initId bmB) (hT : ∀ X : String, bm.contains (.type X) = bmB.contains (.type X)) {rest : List Value} {kw : List (Str × Value)} {fI : Addr} {Q : Fin → Shared → Prop}
    (hC : h.get? C = some (excClassObj nm q C N bs bm hdct sn sub ab col dd k0 k1 k2 k3 k5 newId))
    (hi : W.Looks (model prog w) h (typeLookup (.ref C) "__init__") (some (.ref fI))) (hb : ∀ self, W.Looks (model prog w) h (bindSpecial (.ref fI) self) (.ref fI, [self])) (hrest : rest.length ≤ sizeLine)
    (hq : codeAny (model prog w) A (.call (.ref fI) ⟨.ref (h.objs.size + 1) :: rest, kw⟩)
      (fun r s' => match r with | .ok (.ret v) => v = .none ∧ Q (.done (.ret (.ref (h.objs.size + 1)))) s' | .ok _ => False | .error e => E e s')
      ⟨(h.push (W.kdv_tup rest)).push (excO C h.objs.size), g, d, t, os⟩) :
    wpAny (model prog w) A (Builtin.«type.__call__» ⟨.ref C :: rest, kw⟩) Q E ⟨h, g, d, t, os⟩ := by
  repeat (first | with_reducible refine wpAny_loadPart_at hC ?_ | with_reducible refine wpAny_madeBy_exc hC ?_ | wp_step)
  refine codeAny_call_builtin_code (Code.quiet_builtin _ F.quiet) (xk_check_new F hT hC ?_)
  refine xk_new F hT hC ?_ hrest
  show wpAny _ _ _ _ _ _
  have k : ∀ b o, h.get? b = some o → ((h.push (W.kdv_tup rest)).push (excO C h.objs.size)).get? b = some o := fun b o e => Heap.get?_push_of_some _ (Heap.get?_push_of_some _ e)
  have hC₁ := k _ _ hC
  have hget : ((h.push (W.kdv_tup rest)).push (excO C h.objs.size)).get? (h.objs.size + 1) = some (excO C h.objs.size) := by heap_get
  have hcC : (Value.ref C :: bm).contains (.ref C) = true := by simp
  have i1 := hi.keeps k
  have b1 := (hb (.ref (h.objs.size + 1))).keeps k
  unfold isInstance
  repeat (first | with_reducible refine wpAny_loadPart_at hget ?_ | (with_reducible refine wpAny_isSubtype_exc hC₁ ?_; rw [hcC]) | wp_step)
  show wpAny _ _ (typeLookup (.ref C) _) _ _ _
  refine i1.at ?_
  refine wpAny_holding (wpAny_bind (b1.at ?_))
  refine wpAny_bind (wpAny_call (codeAny_mono hq fun r s' z => ?_))
  rcases r with e | (v | _ | _ | _) <;> first | exact z | exact z.elim | skip
  obtain ⟨rfl, z⟩ := z
  first
    | exact wpAny_pure (wpAny_pure z)
    | (wp_walk; exact z)

theorem xk_call (F : ExcBaseFacts B newId initId bmB) (hT : ∀ X : String, bm.contains (.type X) = bmB.contains (.type X)) {rest : List Value} {kw : List (Str × Value)} {fI : Addr}
    (hC : h.get? C = some (excClassObj nm q C N bs bm hdct sn sub ab col dd k0 k1 k2 k3 k5 newId))
    (hi : W.Looks (model prog w) h (typeLookup (.ref C) "__init__") (some (.ref fI))) (hb : ∀ self, W.Looks (model prog w) h (bindSpecial (.ref fI) self) (.ref fI, [self])) (hrest : rest.length ≤ sizeLine)
    (hq : codeAny (model prog w) (A.under (.builtin "type.__call__" ⟨.ref C :: rest, kw⟩)) (.call (.ref fI) ⟨.ref (h.objs.size + 1) :: rest, kw⟩) (W.InitBack (h.objs.size + 1) R)
      ⟨(h.push (W.kdv_tup rest)).push (excO C h.objs.size), g, d, t, os⟩) :
    codeAny (model prog w) A (.call (.ref C) ⟨rest, kw⟩) R ⟨h, g, d, t, os⟩ := by
  have f1 := tc_lookup
  have f2 := tc_bind (.ref C)
  have hTy : (⟨h, g, d, t, os⟩ : Shared).TypeIs (.ref C) "type" := ⟨_, hC, rfl⟩
  refine codeAny_of_tree ?_
  show wpAny _ _ (callAny (.ref C) _) _ _ _
  repeat (any_goals (first | assumption | with_reducible refine wpAny_loadPart_at hC ?_ | wp_step))
  refine ⟨rfl, ?_⟩
  refine codeAny_call_builtin_at (Code.quiet_builtin _ (by decide +kernel)) entry_typeCall (xk_check_type hC (xk_type F hT hC hi hb hrest ?_))
  refine codeAny_mono hq fun r s' z => ?_
  rcases r with e | (v | _ | _ | _) <;> exact z

end
end HandSPX
end PySem
namespace Ip
open PySem PySem.Spec PyProof.Rows L2
theorem xik_bind {qual : Str} {params : Arguments} {body : List Stmt} {scope : Scope} {cc cda : Addr} {doc pm ct : Value} {an : Option Addr} {f : Str} (hm : f ∈ xiL) (h : xiPar params f = true) (a u : Value) :
    bindArgs (PySem.W.fnX "__init__" qual params body scope [("__class__", cc)] .none .none doc pm an (.ref cda) ct) ⟨[a], [(f, u)]⟩ = pure ((["self", f] : List Str).zip [a, u]) := by
  unfold xiPar at h
  split at h
  · rename_i a b
    simp only [Bool.and_eq_true, decide_eq_true_eq] at h
    obtain ⟨a1, a2, a3⟩ := a
    obtain ⟨b1, b2, b3⟩ := b
    obtain ⟨rfl, rfl⟩ := h
    simp only [xiL, List.mem_cons, List.not_mem_nil, or_false] at hm
    rcases hm with rfl | rfl | rfl | rfl | rfl | rfl <;> rfl
  · cases h
section
variable {X : Cx} {C fI : Addr} {f : Str} {fd : FuncData}
theorem xik_vals {v : V} {ws : List Value} (r : Vals [v] ws) : ∃ u, ws = [u] ∧ L2.RelV v u := by
  cases r with
  | cons r1 r2 =>
    cases r2
    exact ⟨_, rfl, r1⟩
def xikP (P : V → Hp → Prop) : List V → Hp → Prop
  | [v], H => P v H
  | _, _ => False
theorem xikP_ok {P : V → Hp → Prop} {zs : List V} {H : Hp} (h : xikP P zs H) : ∃ v, zs = [v] ∧ P v H := by
  rcases zs with _ | ⟨v, _ | ⟨w, zs⟩⟩
  · exact h.elim
  · exact ⟨v, rfl, h⟩
  · exact h.elim
/-- C(f=e) as a value -/
theorem pe_xik {x : Str} {e : Expr} {ta : TE} {k : Nat} {p pos kp : Pos} (F : XiF X.prog X.K C fI f fd) (T : XiC X.K C f) (iC : PySem.W.findIn X.K (.ref C) "__init__" = some (some (.ref fI))) (tI : PySem.W.typeIn X.K (.ref fI) = some (.type "function"))
    (hsup : X.mg "super" = none) (htop : (X.prog.main.scope.names.lookup ("super" : Str)).isSome = false) (hr : Room (k + 3) X.A) (hg : Gl X x) (hm : X.mg x = some (.ref C)) (he : PE X e ta) (hdb : (x == ("__debug__" : Str)) = false) :
    PE X (.Call (.Name x p) [] [⟨some f, e, kp⟩] pos) (fun σ H Q => ta σ H fun v H1 => ∀ d a, H1 d = none → H1 a = none → d ≠ a → Q (.ref a) (upd (upd H1 d (.xd [(f, v)])) a (EX (.ref C) (some d) a))) := by
  refine ⟨fun pins s σ H Q I h => ?_⟩
  obtain ⟨nm, q, N, bs, bm, sn, sub, ab, col, dd, k0, k1, k2, k3, k5, hC, hbm⟩ := T.o.cls
  refine wpAny_Call_Name_kw (ld_glob I hg hm ?_ hdb)
  refine PySem.W.callWith_KW0 (h₀ := X.base) I.ok.mod.kin T.o.kC rfl (thn ((pk_cons (nm := some f) (kpos := kp) he pk_nil).run pos pins s σ H (xikP fun v H1 => ∀ d a, H1 d = none → H1 a = none → d ≠ a → Q (.ref a) (upd (upd H1 d (.xd [(f, v)])) a (EX (.ref C) (some d) a))) I h) fun ws s1 ⟨zs, H1, I1, rz, z⟩ => ⟨I1.kIn, ?_⟩)
  obtain ⟨v, ez, q1⟩ := xikP_ok z
  subst ez
  obtain ⟨u, rfl, r1⟩ := xik_vals rz
  show wpAny _ _ (call (.ref C) [] [(f, u)]) _ _ _
  obtain ⟨hp, g, dr, tk, os⟩ := s1
  have hsz : hp.objs.size ≤ hp.objs.size + 1 := Nat.le_succ _
  have kk : ∀ b o, hp.get? b = some o → ((hp.push (PySem.W.kdv_tup [])).push (PySem.HandSPX.excO C hp.objs.size)).get? b = some o := fun b o e => Heap.get?_push_of_some _ (Heap.get?_push_of_some _ e)
  have hget : ((hp.push (PySem.W.kdv_tup [])).push (PySem.HandSPX.excO C hp.objs.size)).get? (hp.objs.size + 1) = some (PySem.HandSPX.excO C hp.objs.size) := by heap_get
  have I2 : Inv X pins σ (upd H1 (hp.objs.size + 1) (exo (hp.objs.size + 1) C none)) ⟨(hp.push (PySem.W.kdv_tup [])).push (PySem.HandSPX.excO C hp.objs.size), g, dr, tk, os⟩ :=
    I1.laid (t' := tk) (a := hp.objs.size + 1) (o := exo (hp.objs.size + 1) C none) (h' := (hp.push (PySem.W.kdv_tup [])).push (PySem.HandSPX.excO C hp.objs.size)) kk hsz (exo_ok hget)
  have F1 : FnOk X.prog X.w X.K X.mg X.base CX0 (k + 2) fI fd ["self", f] (spXi C f) := xi_fn F T.mem hsup htop T k
  have r2 : Vals [V.ref (hp.objs.size + 1), v] [Value.ref (hp.objs.size + 1), u] := .cons rfl (.cons r1 .nil)
  have hb : BindsTo ⟨(hp.push (PySem.W.kdv_tup [])).push (PySem.HandSPX.excO C hp.objs.size), g, dr, tk, os⟩ fd ⟨[Value.ref (hp.objs.size + 1)], [(f, u)]⟩ ((["self", f] : List Str).zip [Value.ref (hp.objs.size + 1), u]) := by
    obtain ⟨oc, od, qual, params, body, scope, doc, pm, an, cda, ct, osl, cc, rfl, _, _, hpar, _⟩ := F.ex
    exact .of_eq (xik_bind T.mem hpar _ _)
  refine wpAny_call (PySem.HandSPX.xk_call PySem.F.excBase_ValueError (fun Y => PySem.HandSPX.refsVE_contains Y bm hbm) (I1.kIn _ _ hC) (PySem.W.looks_findIn I1.kIn iC) (fun self => PySem.W.bind_fn I1.kIn self tI) (by show 0 ≤ sizeLine; omega)
    (codeAny_mono (F1.run _ X.stack _ _ ⟨[Value.ref (hp.objs.size + 1)], [(f, u)]⟩ [Value.ref (hp.objs.size + 1), u] _ (fun w H2 => w = .non ∧ ∃ d, H1 d = none ∧ d ≠ hp.objs.size + 1 ∧ H2 = upd (upd (upd H1 (hp.objs.size + 1) (exo (hp.objs.size + 1) C none)) d (exd d [(f, v)])) (hp.objs.size + 1) (exo (hp.objs.size + 1) C (some d))) (fun _ _ _ => False)
      (hr.make C [] [(f, u)]) (I2.env0.make C [] [(f, u)]) hb r2 ⟨_, v, rfl, upd_same, fun dx hn hne => ⟨rfl, dx, by rw [upd_ne hne] at hn; exact hn, hne, rfl⟩⟩) fun r s' hq' => ?_))
  cases r with
  | error er => exact (pass0 (X := X) pins σ _ _ er s' I2 hq')
  | ok fl =>
    cases fl with
    | ret u2 =>
      obtain ⟨v2, H2, os2, bare2, un2, hok2, rv, ev, d, hd1, hda, eH⟩ := hq'
      subst ev
      subst eH
      obtain ⟨h2, g2, d2, t2, os'⟩ := s'
      exact ⟨rv, V.ref (hp.objs.size + 1), _, xi_end I1 hsz kk un2 hok2 os2 bare2 hd1 hda, rfl, q1 d (hp.objs.size + 1) hd1 (I1.hok.fresh hsz) hda⟩
    | next => exact False.elim hq'
    | brk => exact False.elim hq'
    | cont => exact False.elim hq'
end
end Ip

set_option Elab.async false
set_option linter.all false
set_option maxRecDepth 100000
set_option maxHeartbeats 4000000
/-! IpSnd: what a small term comes to, the layer says of the expression. -/
namespace Ip
open PySem PySem.Spec PyProof.Rows L2

/-- a def's promise, by the evaluator -/
def spF (Γ : Env) (n : Nat) (g : List W → M W) : Sp := fun vs H Q E => vs.length = n ∧ ∃ ws η ρ G, Sim Γ ρ G η H ∧ RepWs Γ G ρ ws vs ∧ Fin Γ (fun cls d _ H' => E cls d H') (pW Γ Q) [] ρ G η H (g ws η)
/-- what the program's written part says of names and classes -/
def isX (Γ : Env) (j : Nat) : Prop := j ∈ Γ.pl ∨ ∃ f, (j, f) ∈ Γ.xi
/-- a def that catches: its text -/
def catB (gs : List Str) (q : Nat) (wn cn : Str) (st : Stmt) : Bool := match st with
  | .FunctionDef _ _ [.Assign [.Name c0 _] (.Constant .none _ _) _, .Try [.Expr (.Call (.Name w0 _) [] [] _) _] [.ExceptHandler (some (.Name x _)) (some n) [.Assign [.Name c1 _] (.Name n1 _) _] _] [] [] _, .Return (some (.Name c2 _)) _] _ _ _ sc _ _ _ =>
      decide (c0 = cn) && decide (w0 = wn) && decide (n = "error") && decide (n1 = "error") && decide (c1 = cn) && decide (c2 = cn) && decide (([wn, cn, "error"] : List Str).Nodup) && nodbg wn && nodbg cn && (gs[q]? == some x) && decide (sc.names.lookup x = some .globalImplicit) && nodbg x &&
      decide (sc.kind = .function) && !sc.isCoroutine && !sc.isGenerator && decide (sc.names.lookup wn = some .local) && decide (sc.names.lookup cn = some .local) && decide (sc.names.lookup ("error" : Str) = some .local) && sc.names.all (fun y => y.2 != .free)
  | _ => false
structure Facts (Γ : Env) (sub : Nat → Nat → Bool) (xi : Nat → Option String) : Prop where
  kst : ∀ (x : Str) (d : D), (x, d) ∈ Γ.ks → ∃ (v : V) (u : Value), Γ.mg x = some u ∧ RelV v u ∧ ∀ G, Rep Γ G d v
  cls : ∀ (j : Nat) (x : Str), j ∈ Γ.pl → Γ.gs[j]? = some x → ∃ (C : Addr) (bmB : List Value) (bs newId initId : String), Γ.mg x = some (.ref C) ∧ ExcBaseFacts bs newId initId bmB ∧ PySem.W.excIn Γ.K C bmB newId = true ∧ PySem.W.keepIn Γ.K (.ref C) = true ∧
    PySem.W.subIn Γ.K (.ref C) (.type "BaseException") = some true ∧ PySem.W.typeIn Γ.K (.ref C) = some (.type "type") ∧ ExcC Γ.K C
  exm : ∀ (i j : Nat) (x y : Str) (C D : Addr), isX Γ i → isX Γ j → Γ.gs[i]? = some x → Γ.gs[j]? = some y → Γ.mg x = some (.ref C) → Γ.mg y = some (.ref D) → PySem.W.exmOne Γ.K (.ref C) (.ref D) = some (sub i j)
  kit : ∀ (i j : Nat) (x y : Str) (C D : Addr), isX Γ i → Γ.gs[i]? = some x → Γ.gs[j]? = some y → Γ.mg x = some (.ref C) → Γ.mg y = some (.ref D) → PySem.W.kitOne Γ.K (.ref C) (.ref D) = some (sub i j)
  kitV : ∀ (i : Nat) (x : Str) (C : Addr), isX Γ i → Γ.gs[i]? = some x → Γ.mg x = some (.ref C) → PySem.W.kitOne Γ.K (.ref C) (.type "ValueError") = some true
  xcl : ∀ (j : Nat) (f : String) (x : Str), (j, f) ∈ Γ.xi → Γ.gs[j]? = some x → ∃ (C fI : Addr) (fd : FuncData), Γ.mg x = some (.ref C) ∧ XiF Γ.P Γ.K C fI f fd ∧ XiC Γ.K C f ∧ PySem.W.findIn Γ.K (.ref C) "__init__" = some (some (.ref fI)) ∧ PySem.W.typeIn Γ.K (.ref fI) = some (.type "function") ∧ XfC Γ.K C ∧ ExcC Γ.K C
  xip : ∀ j, j ∈ Γ.pl → xi j = none
  xif : ∀ (j : Nat) (f : String), (j, f) ∈ Γ.xi → xi j = some f
  sys : SysD Γ.K
  top : Γ.xi ≠ [] → (Γ.P.main.scope.names.lookup ("super" : Str)).isSome = false
  cat : ∀ (x : Str) (q : Nat), (x, q) ∈ Γ.ct → isX Γ q ∧ ∃ (g : Addr) (fd : FuncData) (st : Stmt) (wn cn : Str), Γ.mg x = some (.ref g) ∧ FunD Γ.K x x (defArgs st) (defBody st) (defScope st) [] [] g fd ∧ Binds Γ.K fd [wn] [] ∧ catB Γ.gs q wn cn st = true
/-- a def's promise, where no object's repr is under way -/
structure FnG (P : Program) (w : World) (K : PySem.W.Frag) (mg : Str → Option Value) (base : Heap) (CX : CXT) (k : Nat) (f : Addr) (fd : FuncData) (ps : List Str) (sp : Sp) : Prop where
  len : ∀ vs H Q E, sp vs H Q E → vs.length = ps.length
  go : ∀ (A : Around) (outer : List PySem.Env) (s : Shared) (H : Hp) (args : Args) (us : List Value) (vs : List V) (Q : VK) (E : XK), Room k A → A.guards = some [] → Env0 P w K mg base A outer s H → BindsTo s fd args (ps.zip us) → Vals vs us → sp vs H Q E → codeAny (model P w) A (.call (.ref f) args) (CR CX outer P w H s Q E) s
theorem FnG.imp {P : Program} {w : World} {K : PySem.W.Frag} {mg : Str → Option Value} {base : Heap} {CX : CXT} {k : Nat} {f : Addr} {fd : FuncData} {ps : List Str} {sp sp' : Sp} (F : FnG P w K mg base CX k f fd ps sp)
    (h : ∀ vs H Q E, sp' vs H Q E → sp vs H Q E) : FnG P w K mg base CX k f fd ps sp' :=
  ⟨fun vs H Q E q => F.len vs H Q E (h _ _ _ _ q), fun A outer s H args us vs Q E hr hg he hb hv hs => F.go A outer s H args us vs Q E hr hg he hb hv (h _ _ _ _ hs)⟩
theorem run_fnA {X : Cx} {CX : CXT} {k : Nat} {f : Addr} {fd : FuncData} {ps : List Str} {sp : Sp} {E : L2.St → XK} {pins : List (Addr × Obj)} {σ : L2.St} {H : Hp} {s : Shared} {Q : VK} {args : Args} {us : List Value} {vs : List V} (F : FnG X.prog X.w X.K X.mg X.base CX k f fd ps sp) (hr : Room k X.A) (hg : X.A.guards = some []) (b : BindsTo s fd args (ps.zip us)) (hx : PassesAt CX X σ (E σ))
    (I : Inv X pins σ H s) (r : Vals vs us) (h : sp vs H Q (E σ)) : codeAny (model X.prog X.w) X.A (.call (.ref f) args) (fun r s' => match r with
      | .ok (.ret u) => EP X pins σ Q u s'
      | .ok _ => False
      | .error e => X.xe e s') s := by
  refine codeAny_mono (F.go X.A X.stack s H args us vs Q (E σ) hr hg I.env0 b r h) fun r s' hq => ?_
  cases r with
  | error e => exact hx pins H s e s' I hq
  | ok fl =>
    cases fl with
    | ret u => exact I.after hq
    | next => exact False.elim hq
    | brk => exact False.elim hq
    | cont => exact False.elim hq
theorem run_fnG {X : Cx} {CX : CXT} {k : Nat} {f : Addr} {fd : FuncData} {ps : List Str} {sp : Sp} {E : L2.St → XK} {pins : List (Addr × Obj)} {σ : L2.St} {H : Hp} {s : Shared} {Q : VK} {us : List Value} {vs : List V} (F : FnG X.prog X.w X.K X.mg X.base CX k f fd ps sp) (hr : Room k X.A) (hg : X.A.guards = some []) (hb : Binds X.K fd ps []) (hx : PassesAt CX X σ (E σ))
    (I : Inv X pins σ H s) (r : Vals vs us) (h : sp vs H Q (E σ)) : wpAny (model X.prog X.w) X.A (call (.ref f) us) (EP X pins σ Q) X.xe s := by
  have hl : us.length = ps.length := by rw [← r.length]; exact F.len _ _ _ _ h
  have b := hb s us I.kIn (by rw [List.append_nil]; exact hl)
  rw [List.append_nil] at b
  refine wpAny_call (codeAny_mono (run_fnA (E := E) F hr hg b hx I r h) fun r s' hq => ?_)
  rcases r with e | (u | _ | _ | _) <;> exact hq
def permL {α : Type} (pm : List Nat) (ws : List α) : Option (List α) := match pm with
  | [] => some []
  | i :: r => match ws[i]? with
    | some w => (permL r ws).map (w :: ·)
    | none => none
structure Fns (Γ : Env) (c : Cfg) (k : Nat) : Prop where
  run : ∀ (i : Nat) (x : Str) (n : Nat), Γ.ft[i]? = some (x, n) → ∃ (f : Addr) (fd : FuncData) (ps : List Str), ps.length = n ∧ Γ.mg x = some (.ref f) ∧ PySem.W.keepIn Γ.K (.ref f) = true ∧ Binds Γ.K fd ps [] ∧
    (∀ (ks : List Str) (pm : List Nat), (i, ks, pm) ∈ Γ.kw → ∀ (s : Shared) (us ws : List Value), Γ.K.In s.heap → us.length = n → permL pm us = some ws → BindsTo s fd ⟨[], ks.zip us⟩ (ps.zip ws)) ∧
    ∀ md, FnG Γ.P Γ.w Γ.K Γ.mg Γ.base (L2.CX Γ.P Γ.w) k f fd ps (spF Γ n (c.call md i))
  blt : ∀ x ∈ bltL, Γ.mg x = none
  gl : ∀ (j : Nat) (x : Str), Γ.gs[j]? = some x → ∃ a, Γ.mg x = some (.ref a)
  fx : Facts Γ c.sub c.xi
structure Gd (Γ : Env) (c : Cfg) (S : SC) (k : Nat) (Z : WX) (X : Cx) : Prop where
  P : X.prog = Γ.P
  w : X.w = Γ.w
  K : X.K = Γ.K
  mg : X.mg = Γ.mg
  base : X.base = Γ.base
  N : X.N = S.N
  nd : S.N.Nodup
  sc : X.env.scope = S.sc
  fn : ∀ x, X.fn x = S.own x
  calm : X.calm = true
  rm : Room (k + S.up) X.A
  tk : Takes X Z
  fns : Fns Γ c k
  gd : X.A.guards = some []
  lam : ∀ q, S.lm = some q → ∃ c P, X.env.code = .ref c ∧ LamX.TabB X.base X.mg c P ∧ X.env.qual ++ "<lambda>" = q ∧ (P, q) ∈ Γ.T ∧ ∀ p ∈ Γ.T, p.1 = P → p.2 = q

theorem Gd.room {Γ : Env} {c : Cfg} {S : SC} {k : Nat} {Z : WX} {X : Cx} (g : Gd Γ c S k Z X) : Room k X.A := g.rm.mono (by omega)
theorem Gd.room4 {Γ : Env} {c : Cfg} {S : SC} {k : Nat} {Z : WX} {X : Cx} (g : Gd Γ c S k Z X) : Room (k + 4) X.A := g.rm.mono (by unfold SC.up; split <;> omega)
section
variable {Γ : Env} {c : Cfg} {S : SC} {k : Nat} {Z : WX} {X : Cx}
theorem Gd.gl (g : Gd Γ c S k Z X) {x : Str} (h : S.gl x = true) : Gl X x := by
  show X.env.scope.names.lookup x = some .globalImplicit
  rw [g.sc]
  simpa [SC.gl, SC.knd] using h
theorem Gd.vis (g : Gd Γ c S k Z X) {x : Str} (h : S.vis x = true) : Vis X.env.scope x := by
  unfold Vis
  rw [g.sc]
  unfold SC.vis SC.knd at h
  split at h <;> rename_i e <;> first | exact .inl e | exact .inr (.inl e) | exact .inr (.inr e) | cases h
theorem Gd.loc (g : Gd Γ c S k Z X) {x : Str} (h : S.loc x = true) : L2.Loc X.env.scope x ∧ (X.fn x = true ∨ X.env.scope.names.lookup x = some .local) := by
  unfold L2.Loc
  rw [g.sc, g.fn]
  unfold SC.loc SC.knd at h
  split at h <;> rename_i e
  · exact ⟨.inl e, .inr e⟩
  · exact ⟨.inr e, .inl h⟩
  · cases h
theorem nodbg_ok {x : Str} (h : nodbg x = true) : (x == ("__debug__" : Str)) = false ∧ (x == ("__classdict__" : Str)) = false := by
  unfold nodbg at h
  simpa using h
theorem Gd.ix (g : Gd Γ c S k Z X) {i : Nat} {x : Str} (h : (S.N[i]? == some x) = true) : X.N[i]? = some x := by
  rw [g.N]
  exact beq_iff_eq.mp h
theorem Gd.blt (g : Gd Γ c S k Z X) {x : Str} (h : x ∈ bltL) : X.mg x = none := by rw [g.mg]; exact g.fns.blt x h

theorem tI_pure {f : List (Option W) → M W} {d : D} (hf : ∀ ν, f ν = Pure.pure (.d d)) {v : V} (hv : ∀ G, Rep Γ G d v) {σ : L2.St} {H : Hp} {Q : VK} (h : tI Γ Z f σ H Q) : tC v σ H Q := by
  obtain ⟨ν, η, ρ, G, S, T, h⟩ := h
  rw [hf] at h
  exact h ρ G H S (Ext.refl _ _ _ _) v (hv G)
theorem tT_B {f : List (Option W) → M W} {σ : L2.St} {H : Hp} {Q : Bool → Hp → Prop} (h : tT Γ Z f σ H Q) : tI Γ Z f σ H fun x H1 => ∃ c, x = .bl c ∧ Q c H1 := by
  obtain ⟨ν, η, ρ, G, S, T, h⟩ := h
  refine ⟨ν, η, ρ, G, S, T, h.imp fun G' ρ' w H' hb v rv => ?_⟩
  obtain ⟨b, rfl, q⟩ := hb
  cases rv
  exact ⟨b, rfl, q⟩
theorem tI_var {i : Nat} {σ : L2.St} {H : Hp} {Q : VK} (h : tI Γ Z (ev c (.var i)) σ H Q) : tVar i σ H Q := by
  obtain ⟨ν, η, ρ, G, S, T, h⟩ := h
  simp only [ev] at h
  cases e : ν[i]? with
  | none => rw [e] at h; exact h.elim
  | some o =>
    rw [e] at h
    cases o with
    | none => exact h.elim
    | some w =>
      obtain ⟨v, hv, rv⟩ := T.2 i w e
      exact ⟨v, hv, h ρ G H S (Ext.refl _ _ _ _) v rv⟩

/-! ### rules by their names -/
theorem opRule (g : Gd Γ c S k Z X) {o : Bop} {op : Operator} (h : opB o op = true) : OpR X (binaryOp op) (pr2 Γ (dbin o)) := by
  cases o <;> cases op <;> first | (simp [opB] at h; done) | skip
  · exact or_add g.K
  · exact or_sub
  · exact or_mul
  · exact or_fdiv
  · exact or_mod
  · exact or_pow
theorem copRule (g : Gd Γ c S k Z X) {o : Cop} {op : CmpOp} (h : opC o op = true) : OpR X (compareOp op) (pr2 Γ fun x y => (dcmp o x y).map .bl) := by
  have hu := g.room.units
  have hu5 : X.A.units + 65 < cLine := by have := g.room.un; omega
  cases o <;> cases op <;> first | (simp [opC] at h; done) | skip
  · exact or_eq g.K hu
  · exact or_ne g.K hu
  · exact or_lt g.K hu
  · exact or_le g.K hu
  · exact or_gt g.K hu
  · exact or_ge g.K hu
  · exact or_in g.K hu5
  · exact or_notin g.K hu5
  · exact or_is
  · exact or_isnot
theorem prL_ext {g g' : List D → Option D} {f : Value} (h : CallR X f (prL Γ g)) (e : ∀ ds, g' ds = g ds) : CallR X f (prL Γ g') := by
  have : g' = g := funext e
  rw [this]; exact h
theorem fnRule (g : Gd Γ c S k Z X) {f : Fn} (h : okFn f = true) : CallR X (fnVal f) (prL Γ (dfn c.sub f)) := by
  have hu : X.A.units + 66 < cLine := by have := g.room.un; omega
  cases f <;> first | (simp [okFn] at h; done) | skip
  · exact prL_ext (cr_lenD g.K) fun ds => by rcases ds with _ | ⟨d, _ | ⟨d2, _ | ⟨d3, ds⟩⟩⟩ <;> simp [dfn]
  · exact prL_ext cr_absD fun ds => by rcases ds with _ | ⟨d, _ | ⟨d2, _ | ⟨d3, ds⟩⟩⟩ <;> first | rfl | (cases d <;> rfl)
  · exact prL_ext cr_intD fun ds => by rcases ds with _ | ⟨d, _ | ⟨d2, _ | ⟨d3, ds⟩⟩⟩ <;> first | rfl | (cases d <;> rfl)
  · exact prL_ext (cr_minD g.calm) fun ds => by rcases ds with _ | ⟨d, _ | ⟨d2, _ | ⟨d3, ds⟩⟩⟩ <;> first | rfl | (cases d <;> rfl) | (cases d <;> cases d2 <;> rfl)
  · exact prL_ext (cr_maxD g.calm) fun ds => by rcases ds with _ | ⟨d, _ | ⟨d2, _ | ⟨d3, ds⟩⟩⟩ <;> first | rfl | (cases d <;> rfl) | (cases d <;> cases d2 <;> rfl)
  · exact prL_ext (cr_sortedD g.K hu) fun ds => by rcases ds with _ | ⟨d, _ | ⟨d2, _ | ⟨d3, ds⟩⟩⟩ <;> first | rfl | (cases d <;> rfl)
  · exact prL_ext (cr_listD g.K) fun ds => by rcases ds with _ | ⟨d, _ | ⟨d2, _ | ⟨d3, ds⟩⟩⟩ <;> first | rfl | (cases d <;> rfl)
  · exact prL_ext (cr_tupleD g.K) fun ds => by rcases ds with _ | ⟨d, _ | ⟨d2, _ | ⟨d3, ds⟩⟩⟩ <;> first | rfl | (cases d <;> rfl)
  · exact prL_ext (cr_dictD g.K g.calm) fun ds => by rcases ds with _ | ⟨d, _ | ⟨d2, _ | ⟨d3, ds⟩⟩⟩ <;> first | rfl | (cases d <;> rfl)
  · exact prL_ext (cr_sumD g.calm) fun ds => by rcases ds with _ | ⟨d, _ | ⟨d2, _ | ⟨d3, ds⟩⟩⟩ <;> first | rfl | (cases d <;> rfl)
  · exact prL_ext (cr_anyD g.calm) fun ds => by rcases ds with _ | ⟨d, _ | ⟨d2, _ | ⟨d3, ds⟩⟩⟩ <;> first | rfl | (cases d <;> rfl)
  · exact prL_ext (cr_allD g.calm) fun ds => by rcases ds with _ | ⟨d, _ | ⟨d2, _ | ⟨d3, ds⟩⟩⟩ <;> first | rfl | (cases d <;> rfl)
  · exact prL_ext (cr_reprD g.K (by rw [g.K]; exact g.fns.fx.sys) g.gd hu) fun ds => by rcases ds with _ | ⟨d, _ | ⟨d2, _ | ⟨d3, ds⟩⟩⟩ <;> rfl
  · exact prL_ext cr_rangeD fun ds => by rcases ds with _ | ⟨d, _ | ⟨d2, _ | ⟨d3, ds⟩⟩⟩ <;> first | rfl | (cases d <;> rfl) | (cases d <;> cases d2 <;> rfl)
  · refine CallR.imp ((cr_isiD (Γ := Γ) g.K).or (call_isX1.or call_isX2)) fun xs H Q h => ?_
    obtain ⟨G, ds, z, hS, as, e, q⟩ := h
    rcases ds with _ | ⟨d, _ | ⟨d2, _ | ⟨d3, ds⟩⟩⟩
    · simp [dfn] at e
    · simp [dfn] at e
    · obtain ⟨v, u, rfl, a1, a2⟩ := as.two
      -- the class that is asked for
      have key : ∀ (ex : isExc d = true) (b : Bool) (cv : Value), z = .bl b → (∀ w, L2.RelV u w → w = cv) → (∀ (cc : Nat) (fs : List (String × D)) (x : Str) (C : Addr), d = .exc cc fs → isX Γ cc → Γ.gs[cc]? = some x → Γ.mg x = some (.ref C) → PySem.W.kitOne Γ.K (.ref C) cv = some b) →
          rIsX1 X.K [v, u] H Q ∨ rIsX2 X.K [v, u] H Q := fun ex b cv ez hcv hkit => by
        subst ez
        cases d <;> first | (cases ex; done) | skip
        cases a1 with
        | fix r =>
          cases r with
          | exc hp hx hm hG =>
            obtain ⟨C, bmB, bs, n1, n2, f1, f2, f3, f4, f5, f6, f7⟩ := g.fns.fx.cls _ _ hp hx
            rw [hm] at f1
            cases f1
            exact .inl ⟨_, _, u, cv, b, rfl, hcv, ExAt.mono hS hG, by rw [g.K]; exact f7, by rw [g.K]; exact hkit _ _ _ _ rfl (.inl hp) hx hm, give0 hS q (.bl b)⟩
          | excF hp hx hm h1 h2 hy =>
            obtain ⟨C, fI, fd, f1, f2, f3, f4, f5, f6, f7⟩ := g.fns.fx.xcl _ _ _ hp hx
            rw [hm] at f1
            cases f1
            exact .inr ⟨_, _, _, u, cv, _, b, rfl, hcv, hS _ _ h1, hS _ _ h2, by rw [g.K]; exact f7, by rw [g.K]; exact hkit _ _ _ _ rfl (.inr ⟨_, hp⟩) hx hm, give0 hS q (.bl b)⟩
      cases d2 with
      | ty n =>
        simp only [dfn, disi] at e
        split at e
        · rename_i hn
          refine .inl ⟨G, [d, .ty n], z, hS, as, ?_, q⟩
          simp only [hn, if_true]
          cases e3 : tyName d with
          | none => rw [e3] at e; cases e
          | some m => rw [e3] at e; exact e
        · split at e
          · rename_i hx
            simp only [Bool.and_eq_true, decide_eq_true_eq] at hx
            obtain ⟨hx, rfl⟩ := hx
            have hu2 := a2.ty
            subst hu2
            exact .inr (key hx true (.type "ValueError") (by cases e; rfl) (fun w hw => hw) fun cc fs x C _ hX hx2 hm2 => g.fns.fx.kitV _ _ _ hX hx2 hm2)
          · cases e
      | glo j =>
        simp only [dfn, disi] at e
        cases hd : d <;> first | (rw [hd] at e; simp at e; done) | skip
        rename_i cc fs
        rw [hd] at e
        cases e
        cases a2 with
        | fix r2 =>
          cases r2 with
          | glo hy hm2 =>
            refine .inr (key (by rw [hd]; rfl) _ _ rfl (fun w hw => hw) fun cc2 fs2 x C e2 hX hx2 hm3 => ?_)
            rw [hd] at e2
            cases e2
            exact g.fns.fx.kit _ _ _ _ _ _ hX hx2 hy hm3 hm2
      | _ => simp [dfn, disi] at e
    · simp [dfn] at e
  · exact prL_ext (cr_dlistD g.calm) fun ds => by rcases ds with _ | ⟨d, _ | ⟨d2, _ | ⟨d3, ds⟩⟩⟩ <;> first | rfl | (cases d <;> rfl)
  · exact prL_ext (cr_dsortD g.calm) fun ds => by rcases ds with _ | ⟨d, _ | ⟨d2, _ | ⟨d3, ds⟩⟩⟩ <;> first | rfl | (cases d <;> rfl)

/-! ### argument lists -/
def AllE (Γ : Env) (c : Cfg) (Z : WX) (X : Cx) : Ex → List Expr → Prop
  | .nil, [] => True
  | .cons a r, e :: es => notStar e = true ∧ PE X e (tI Γ Z (ev c a)) ∧ AllE Γ c Z X r es
  | _, _ => False
theorem AllE.pa : ∀ {x : Ex} {es : List Expr}, AllE Γ c Z X x es → PA X es (tA Γ Z (evl c x))
  | .nil, [], _ => PA.imp pa_nil fun _ _ _ h => tA_nil (by simpa [evl] using h)
  | .cons a r, e :: es, h => by
    obtain ⟨h1, h2, h3⟩ := h
    refine PA.imp (pa_cons h2 (AllE.pa h3) (star_of h1 _ _)) fun σ H Q t => tA_cons ?_
    have e2 : evl c (.cons a r) = fun ν => (do let x ← ev c a ν; let r ← evl c r ν; Pure.pure (x :: r)) := by
      funext ν; simp [evl]
    rw [e2] at t
    exact t
theorem AllE.len : ∀ {x : Ex} {es : List Expr}, AllE Γ c Z X x es → ∀ (ν : List (Option W)) (η η' : Hv) (ws : List W), evl c x ν η = .ok ws η' → ws.length = es.length
  | .nil, [], _ => fun ν η η' ws e => by
    simp only [evl] at e
    cases e
    rfl
  | .cons a r, _ :: es, h => fun ν η η' ws e => by
    simp only [evl] at e
    rw [M.bind_ap] at e
    cases e1 : ev c a ν η with
    | ok w η1 =>
      rw [e1] at e
      simp only at e
      rw [M.bind_ap] at e
      cases e2 : evl c r ν η1 with
      | ok us η2 =>
        rw [e2] at e
        cases e
        simp [AllE.len h.2.2 _ _ _ _ e2]
      | exc _ _ => rw [e2] at e; cases e
      | bad => rw [e2] at e; cases e
    | exc _ _ => rw [e1] at e; cases e
    | bad => rw [e1] at e; cases e
theorem AllE.two {x : Ex} {e1 e2 : Expr} (h : AllE Γ c Z X x [e1, e2]) : ∃ a b, x = .cons a (.cons b .nil) ∧ PE X e1 (tI Γ Z (ev c a)) ∧ PE X e2 (tI Γ Z (ev c b)) := by
  cases x <;> first | exact h.elim | skip
  rename_i a r
  obtain ⟨_, h2, h3⟩ := h
  cases r <;> first | exact h3.elim | skip
  rename_i b r
  obtain ⟨_, h4, h5⟩ := h3
  cases r <;> first | exact h5.elim | skip
  exact ⟨a, b, rfl, h2, h4⟩
theorem AllE.one {x : Ex} {e1 : Expr} (h : AllE Γ c Z X x [e1]) : ∃ a, x = .cons a .nil ∧ PE X e1 (tI Γ Z (ev c a)) := by
  cases x <;> first | exact h.elim | skip
  rename_i a r
  obtain ⟨_, h2, h3⟩ := h
  cases r <;> first | exact h3.elim | skip
  exact ⟨a, rfl, h2⟩
theorem AllE.three {x : Ex} {e1 e2 e3 : Expr} (h : AllE Γ c Z X x [e1, e2, e3]) : ∃ a b d, x = .cons a (.cons b (.cons d .nil)) ∧ PE X e1 (tI Γ Z (ev c a)) ∧ PE X e2 (tI Γ Z (ev c b)) ∧ PE X e3 (tI Γ Z (ev c d)) := by
  cases x <;> first | exact h.elim | skip
  rename_i a r
  obtain ⟨_, h2, h3⟩ := h
  obtain ⟨b, d, rfl, h4, h5⟩ := h3.two
  exact ⟨a, b, d, rfl, h2, h4, h5⟩
theorem AllE.stars : ∀ {x : Ex} {es : List Expr}, AllE Γ c Z X x es → es.all notStar = true
  | .nil, [], _ => rfl
  | .cons a r, e :: es, h => by
    obtain ⟨h1, _, h3⟩ := h
    simp [h1, AllE.stars h3]
theorem AllE.nilOf {x : Ex} (h : AllE Γ c Z X x []) : x = .nil := by
  cases x <;> first | exact h.elim | rfl
theorem ev_pr {p : Pr} {es : Ex} (hp : strictP p = false) : ev c (.pr p es) = fun ν => (do let ws ← evl c es ν; prM (dprim c.sub p) ws) := by
  funext ν; simp [ev, prM, rdP, hp]
theorem ev_prS {p : Pr} {es : Ex} (hp : strictP p = true) : ev c (.pr p es) = fun ν => (do
    let ws ← evl c es ν
    match dats ws with
    | some ds => (match dprim c.sub p ds with
      | some z => Pure.pure (W.d z)
      | none => M.bad)
    | none => M.bad) := by
  funext ν
  simp only [ev, rdP, hp, if_true]
  congr 1
  funext ws
  cases dats ws with
  | none => rfl
  | some ds =>
    show (ofO (dprim c.sub p ds) >>= fun z => Pure.pure (W.d z)) = (match dprim c.sub p ds with | some z => Pure.pure (W.d z) | none => M.bad)
    cases dprim c.sub p ds <;> rfl
theorem ev_pr2 {p : Pr} {a b : Ex} (hp : strictP p = false) : ev c (.pr p (.cons a (.cons b .nil))) = fun ν => (do let x ← ev c a ν; let y ← ev c b ν; prM (dprim c.sub p) [x, y]) := by
  funext ν; simp [ev_pr hp, evl]
theorem ev_pr1 {p : Pr} {a : Ex} (hp : strictP p = false) : ev c (.pr p (.cons a .nil)) = fun ν => (do let x ← ev c a ν; prM (dprim c.sub p) [x]) := by
  funext ν; simp [ev_pr hp, evl]
theorem ev_pr3 {p : Pr} {a b d : Ex} (hp : strictP p = false) : ev c (.pr p (.cons a (.cons b (.cons d .nil)))) = fun ν => (do let x ← ev c a ν; let y ← ev c b ν; let z ← ev c d ν; prM (dprim c.sub p) [x, y, z]) := by
  funext ν; simp [ev_pr hp, evl]
/-- a display -/
theorem disp_ok {g : List D → Option D} {fs : List (Option W) → M (List W)} {mk : List D → D} {ho : List V → HO} (hg : ∀ ds, g ds = if ds.length ≤ lim then some (mk ds) else none) (hnt : ∀ vs ps, ho vs ≠ .tbl ps)
    (hr : ∀ (G : Hp) (ds : List D) (vs : List V) (p : Addr), G p = some (ho vs) → RepL Γ G ds vs → Rep Γ G (mk ds) (.ref p)) {σ : L2.St} {H : Hp} {Q : VK} (h : tI Γ Z (fun ν => do
      let ws ← fs ν
      match dats ws with
      | some ds => (match g ds with
        | some z => Pure.pure (W.d z)
        | none => M.bad)
      | none => M.bad) σ H Q) : tA Γ Z fs σ H fun xs H1 => xs.length ≤ sizeLine ∧ ∀ p, H1 p = none → Q (.ref p) (upd H1 p (ho xs)) := by
  obtain ⟨ν, η, ρ, G, S, T, h⟩ := h
  refine ⟨ν, η, ρ, G, S, T, Fin.bind h _ fun ws ρ1 G1 η1 H1 S1 E1 h1 vs rs => ?_⟩
  cases e : dats ws with
  | none => rw [e] at h1; exact h1.elim
  | some ds =>
    rw [e] at h1
    simp only at h1
    rw [hg] at h1
    have rl := RepL.of_ws rs e
    by_cases hz : ds.length ≤ lim
    · rw [if_pos hz] at h1
      refine ⟨by rw [rl.length, hsz]; exact hz, fun p hp => ?_⟩
      exact h1 ρ1 (grow G1 H1 (upd H1 p (ho vs))) (upd H1 p (ho vs)) (S1.grow (same_upd hp)) (Ext.grow S1 (same_upd hp)) _ (hr _ ds vs p (grow_up hp (hnt vs)) (RepL.mono (grow_same S1.same) rl))
    · rw [if_neg hz] at h1
      exact h1.elim
end
end Ip

set_option Elab.async false
set_option linter.all false
set_option maxRecDepth 100000
set_option maxHeartbeats 4000000
/-! IpHeap: the run's own objects: laid, written, frozen. -/
namespace Ip
open PySem PySem.Spec PyProof.Rows L2

def updR (ρ : Rho) (n : Nat) (p : Addr) : Rho := fun m => if m = n then some p else ρ m
section
variable {Γ : Env} {ρ : Rho} {G H : Hp} {η : Hv}
theorem updR_le {n : Nat} {p : Addr} (h : ρ n = none) : ∀ m a, ρ m = some a → updR ρ n p m = some a := fun m a q => by
  unfold updR
  by_cases e : m = n
  · subst e; rw [h] at q; cases q
  · rw [if_neg e]; exact q
theorem RepO.at {n : Nat} {o : VO} (h : RepO Γ G ρ H n o) (hd : o ≠ .dead) : ∃ a, ρ n = some a ∧ G a = none ∧ H a ≠ none := by
  cases o with
  | dead => exact absurd rfl hd
  | lst xs => obtain ⟨a, vs, h1, h2, h3, _⟩ := h; exact ⟨a, h1, h2, by rw [h3]; simp⟩
  | dct _ => obtain ⟨a, vs, h1, h2, h3, _⟩ := h; exact ⟨a, h1, h2, by rw [h3]; simp⟩
  | cel _ => exact h.elim
theorem RepO.kind {n : Nat} {o : VO} (h : RepO Γ G ρ H n o) (hd : o ≠ .dead) : ∃ a u, ρ n = some a ∧ H a = some u ∧ Cont u := by
  cases o with
  | dead => exact absurd rfl hd
  | lst xs => obtain ⟨a, vs, h1, h2, h3, _⟩ := h; exact ⟨a, _, h1, h3, trivial⟩
  | dct _ => obtain ⟨a, vs, h1, h2, h3, _⟩ := h; exact ⟨a, _, h1, h3, trivial⟩
  | cel _ => exact h.elim
/-- an own object is no table and no code object -/
theorem Sim.tabPut (S : Sim Γ ρ G η H) {n : Nat} {p : Addr} (hl : live η n) (hp : ρ n = some p) (ho : HO) : LamX.Tabs Γ.T (upd H p ho) ∧ ∀ a ps, H a = some (.tbl ps) → a ≠ p := by
  obtain ⟨on, hon, hdn⟩ := hl
  obtain ⟨b, u, h1, h2, h3⟩ := (S.obj n on hon).kind hdn
  rw [hp] at h1; cases h1
  refine ⟨tab_move S.tab fun c o e n1 => ?_, fun a ps e z => ?_⟩
  · have : c ≠ p := fun z => by
      subst z
      rw [h2] at e; cases e
      exact n1 h3
    rw [upd_ne this]; exact e
  · subst z
    rw [h2] at e; cases e
    exact h3
theorem RepO.move {ρ' : Rho} {G' H' : Hp} {n : Nat} {o : VO} (h : RepO Γ G ρ H n o) (er : ∀ m a, ρ m = some a → ρ' m = some a) (eg : Same G G') (hg : ∀ a, ρ n = some a → G' a = none) (hh : ∀ a u, ρ n = some a → H a = some u → H' a = some u) : RepO Γ G' ρ' H' n o := by
  cases o with
  | dead => trivial
  | lst xs =>
    obtain ⟨a, vs, h1, h2, h3, h4⟩ := h
    exact ⟨a, vs, er _ _ h1, hg a h1, hh a _ h1 h3, h4.mono eg er⟩
  | dct _ =>
    obtain ⟨a, vs, h1, h2, h3, h4⟩ := h
    exact ⟨a, vs, er _ _ h1, hg a h1, hh a _ h1 h3, h4.mono eg er⟩
  | cel _ => exact h.elim
/-- an own object's content -/
inductive RepC (Γ : Env) (G : Hp) (ρ : Rho) : VO → HO → Prop
  | lst {ws : List W} {vs : List V} : RepWs Γ G ρ ws vs → RepC Γ G ρ (.lst ws) (.lst vs)
  | dct {kvs : List (D × W)} {ks : List (Key × V)} : RepKs Γ G ρ kvs ks → RepC Γ G ρ (.dct kvs) (.dK ks)
theorem RepC.rep {H : Hp} {n : Nat} {p : Addr} {o : VO} {u : HO} (r : RepC Γ G ρ o u) (h1 : ρ n = some p) (h2 : G p = none) (h3 : H p = some u) : RepO Γ G ρ H n o := by
  cases r with
  | lst r => exact ⟨p, _, h1, h2, h3, r⟩
  | dct r => exact ⟨p, _, h1, h2, h3, r⟩
theorem RepC.mono {G' : Hp} {ρ' : Rho} {o : VO} {u : HO} (r : RepC Γ G ρ o u) (e : Same G G') (er : ∀ n a, ρ n = some a → ρ' n = some a) : RepC Γ G' ρ' o u := by
  cases r with
  | lst r => exact .lst (r.mono e er)
  | dct r => exact .dct (r.mono e er)
/-- a new own object -/
theorem Sim.layO (S : Sim Γ ρ G η H) {p : Addr} (hp : H p = none) {vo : VO} {ho : HO} (r : RepC Γ G ρ vo ho) :
    Sim Γ (updR ρ η.length p) G (η ++ [vo]) (upd H p ho) ∧ Ext ρ G η H (updR ρ η.length p) G (η ++ [vo]) (upd H p ho) := by
  have hn : ρ η.length = none := S.new _ (Nat.le_refl _)
  have gp : G p = none := by
    cases e : G p with
    | none => rfl
    | some o => rw [S.same p o e] at hp; cases hp
  have er := updR_le (p := p) hn
  have self : updR ρ η.length p η.length = some p := by unfold updR; rw [if_pos rfl]
  have cases_ : ∀ n o, (η ++ [vo])[n]? = some o → η[n]? = some o ∨ (n = η.length ∧ o = vo) := fun n o e => by
    by_cases h : n < η.length
    · rw [List.getElem?_append_left h] at e; exact .inl e
    · rw [List.getElem?_append_right (by omega)] at e
      have : n - η.length = 0 := by
        cases q : n - η.length with
        | zero => rfl
        | succ k => rw [q] at e; simp at e
      rw [this] at e
      simp at e
      exact .inr ⟨by omega, e.symm⟩
  have old : ∀ n a, live η n → ρ n = some a → a ≠ p := fun n a ⟨o, h1, h2⟩ h3 => by
    obtain ⟨b, h4, _, h5⟩ := (S.obj n o h1).at h2
    rw [h3] at h4
    cases h4
    intro e
    subst e
    exact h5 hp
  have lv : ∀ n, live (η ++ [vo]) n → live η n ∨ n = η.length := fun n ⟨o, h1, h2⟩ => by
    rcases cases_ n o h1 with h | ⟨h, _⟩
    · exact .inl ⟨o, h, h2⟩
    · exact .inr h
  have rold : ∀ n a, live η n → updR ρ η.length p n = some a → ρ n = some a := fun n a ⟨o, h1, _⟩ h => by
    unfold updR at h
    have : n < η.length := by
      obtain ⟨h2, _⟩ := List.getElem?_eq_some_iff.mp h1
      exact h2
    rw [if_neg (by omega)] at h
    exact h
  refine ⟨⟨fun a o h => by rw [upd_ne (ne_of_none (S.same a o h) hp)]; exact S.same a o h, fun n o e => ?_, fun n m a l1 l2 h1 h2 => ?_, fun n hn' => ?_, tab_same S.tab (same_upd hp), S.ntb⟩, ⟨er, Same.refl G, fun a o h _ _ => by rw [upd_ne (ne_of_none h hp)]; exact h, fun a ps h => ⟨ps, by rw [upd_ne (ne_of_none h hp)]; exact h⟩, fun a h => .inl h, fun a h => ?_⟩⟩
  · rcases cases_ n o e with h | ⟨rfl, rfl⟩
    · by_cases hd : o = .dead
      · subst hd; trivial
      · refine (S.obj n o h).move er (Same.refl G) (fun a ha => ?_) fun a u ha hu => by rw [upd_ne (old n a ⟨o, h, hd⟩ ha)]; exact hu
        obtain ⟨b, h4, h6, _⟩ := (S.obj n o h).at hd
        rw [ha] at h4; cases h4
        exact h6
    · exact (r.mono (Same.refl G) er).rep self gp upd_same
  · rcases lv n l1 with l1 | rfl <;> rcases lv m l2 with l2 | rfl
    · exact S.inj n m a l1 l2 (rold n a l1 h1) (rold m a l2 h2)
    · rw [self] at h2; cases h2
      exact absurd rfl (old n _ l1 (rold n _ l1 h1))
    · rw [self] at h1; cases h1
      exact absurd rfl (old m _ l2 (rold m _ l2 h2))
    · rfl
  · rw [List.length_append] at hn'
    unfold updR
    simp only [List.length_singleton] at hn'
    rw [if_neg (by omega)]
    exact S.new n (by omega)
  · obtain ⟨n, l, h⟩ := h
    rcases lv n l with l | rfl
    · exact .inl ⟨n, l, rold n a l h⟩
    · rw [self] at h; cases h; exact .inr hp
theorem Sim.lay (S : Sim Γ ρ G η H) {p : Addr} (hp : H p = none) {ws : List W} {vs : List V} (r : RepWs Γ G ρ ws vs) :
    Sim Γ (updR ρ η.length p) G (η ++ [.lst ws]) (upd H p (.lst vs)) ∧ Ext ρ G η H (updR ρ η.length p) G (η ++ [.lst ws]) (upd H p (.lst vs)) := S.layO hp (.lst r)
/-- an own object is rewritten -/
theorem Sim.putO (S : Sim Γ ρ G η H) {n : Nat} {p : Addr} (hl : live η n) (hp : ρ n = some p) {vo : VO} {ho : HO} (r : RepC Γ G ρ vo ho) :
    Sim Γ ρ G (η.set n vo) (upd H p ho) ∧ Ext ρ G η H ρ G (η.set n vo) (upd H p ho) := by
  obtain ⟨on, hon, hdn⟩ := hl
  obtain ⟨b, h4, gp, hh⟩ := (S.obj n on hon).at hdn
  rw [hp] at h4; cases h4
  have hlt : n < η.length := (List.getElem?_eq_some_iff.mp hon).1
  have cases_ : ∀ m o, (η.set n vo)[m]? = some o → (m ≠ n ∧ η[m]? = some o) ∨ (m = n ∧ o = vo) := fun m o e => by
    by_cases h : m = n
    · subst h
      rw [List.getElem?_set_self hlt] at e
      cases e
      exact .inr ⟨rfl, rfl⟩
    · rw [List.getElem?_set_ne (Ne.symm h)] at e
      exact .inl ⟨h, e⟩
  have lv : ∀ m, live (η.set n vo) m → live η m := fun m ⟨o, h1, h2⟩ => by
    rcases cases_ m o h1 with ⟨_, h⟩ | ⟨rfl, _⟩
    · exact ⟨o, h, h2⟩
    · exact ⟨on, hon, hdn⟩
  obtain ⟨tq, tn⟩ := S.tabPut ⟨on, hon, hdn⟩ hp ho
  refine ⟨⟨fun a o h => ?_, fun m o e => ?_, fun m k a l1 l2 h1 h2 => S.inj m k a (lv m l1) (lv k l2) h1 h2, fun m hm => S.new m (by simpa using hm), tq, S.ntb⟩, ⟨fun _ _ h => h, Same.refl G, fun a o h no _ => ?_, fun a ps h => ⟨ps, by rw [upd_ne (tn a ps h)]; exact h⟩, fun a h => .inl h, fun a ⟨m, l, h⟩ => .inl ⟨m, lv m l, h⟩⟩⟩
  · have : a ≠ p := fun e => by subst e; rw [gp] at h; cases h
    rw [upd_ne this]
    exact S.same a o h
  · rcases cases_ m o e with ⟨hm, h⟩ | ⟨rfl, rfl⟩
    · by_cases hd : o = .dead
      · subst hd; trivial
      · refine (S.obj m o h).move (fun _ _ q => q) (Same.refl G) (fun a ha => ?_) fun a u ha hu => ?_
        · obtain ⟨b, h4, h6, _⟩ := (S.obj m o h).at hd
          rw [ha] at h4; cases h4
          exact h6
        · have : a ≠ p := fun e => by
            subst e
            exact hm (S.inj m n a ⟨o, h, hd⟩ ⟨on, hon, hdn⟩ ha hp)
          rw [upd_ne this]
          exact hu
    · exact r.rep hp gp upd_same
  · have : a ≠ p := fun e => by
      subst e
      exact no ⟨n, ⟨on, hon, hdn⟩, hp⟩
    rw [upd_ne this]
    exact h
theorem Sim.put (S : Sim Γ ρ G η H) {n : Nat} {p : Addr} (hl : live η n) (hp : ρ n = some p) {ws : List W} {vs : List V} (r : RepWs Γ G ρ ws vs) :
    Sim Γ ρ G (η.set n (.lst ws)) (upd H p (.lst vs)) ∧ Ext ρ G η H ρ G (η.set n (.lst ws)) (upd H p (.lst vs)) := S.putO hl hp (.lst r)
/-- an own object is frozen -/
theorem Sim.frz (S : Sim Γ ρ G η H) {n : Nat} {p : Addr} {o : HO} (hl : live η n) (hp : ρ n = some p) (ho : H p = some o) :
    Sim Γ ρ (upd G p o) (η.set n .dead) H ∧ Ext ρ G η H ρ (upd G p o) (η.set n .dead) H ∧ Same G (upd G p o) := by
  obtain ⟨on, hon, hdn⟩ := hl
  obtain ⟨b, h4, gp, hh⟩ := (S.obj n on hon).at hdn
  rw [hp] at h4; cases h4
  have hlt : n < η.length := (List.getElem?_eq_some_iff.mp hon).1
  have sg : Same G (upd G p o) := same_upd gp
  have cases_ : ∀ m o', (η.set n VO.dead)[m]? = some o' → (m ≠ n ∧ η[m]? = some o') ∨ (m = n ∧ o' = .dead) := fun m o' e => by
    by_cases h : m = n
    · subst h
      rw [List.getElem?_set_self hlt] at e
      cases e
      exact .inr ⟨rfl, rfl⟩
    · rw [List.getElem?_set_ne (Ne.symm h)] at e
      exact .inl ⟨h, e⟩
  have lv : ∀ m, live (η.set n VO.dead) m → m ≠ n ∧ live η m := fun m ⟨o', h1, h2⟩ => by
    rcases cases_ m o' h1 with ⟨h0, h⟩ | ⟨_, h⟩
    · exact ⟨h0, o', h, h2⟩
    · exact absurd h h2
  obtain ⟨tq, tn⟩ := S.tabPut ⟨on, hon, hdn⟩ hp o
  refine ⟨⟨fun a u h => ?_, fun m o' e => ?_, fun m k a l1 l2 h1 h2 => S.inj m k a (lv m l1).2 (lv k l2).2 h1 h2, fun m hm => S.new m (by simpa using hm), S.tab, fun a ps z => by
      by_cases e : a = p
      · subst e
        rw [upd_same] at z; cases z
        exact tn _ ps ho rfl
      · rw [upd_ne e] at z; exact S.ntb a ps z⟩, ⟨fun _ _ h => h, sg, fun a u h _ _ => h, fun a ps h => ⟨ps, h⟩, fun a h => ?_, fun a ⟨m, l, h⟩ => .inl ⟨m, (lv m l).2, h⟩⟩, sg⟩
  · by_cases e : a = p
    · subst e; rw [upd_same] at h; cases h; exact ho
    · rw [upd_ne e] at h; exact S.same a u h
  · rcases cases_ m o' e with ⟨hm, h⟩ | ⟨_, rfl⟩
    · by_cases hd : o' = .dead
      · subst hd; trivial
      · refine (S.obj m o' h).move (fun _ _ q => q) sg (fun a ha => ?_) fun a u _ hu => hu
        obtain ⟨b, h4, h6, _⟩ := (S.obj m o' h).at hd
        rw [ha] at h4; cases h4
        have : a ≠ p := fun e => by
          subst e
          exact hm (S.inj m n a ⟨o', h, hd⟩ ⟨on, hon, hdn⟩ ha hp)
        rw [upd_ne this]
        exact h6
    · trivial
  · by_cases e : a = p
    · subst e; exact .inr (.inr (.inl ⟨n, ⟨on, hon, hdn⟩, hp⟩))
    · rw [upd_ne e] at h; exact .inl h
/-- an own list, by its reference -/
theorem own_lst (S : Sim Γ ρ G η H) {n : Nat} {ws : List W} {v : V} (e : η[n]? = some (.lst ws)) (rv : RepW Γ G ρ (.ref n) v) : ∃ p vs, v = .ref p ∧ ρ n = some p ∧ live η n ∧ H p = some (.lst vs) ∧ RepWs Γ G ρ ws vs := by
  obtain ⟨a, h1, rfl⟩ := rv
  obtain ⟨b, vs, h2, _, h3, h4⟩ := S.obj n _ e
  rw [h1] at h2; cases h2
  exact ⟨a, vs, rfl, h1, ⟨_, e, by simp⟩, h3, h4⟩
/-- an own dict, by its reference -/
theorem own_dct (S : Sim Γ ρ G η H) {n : Nat} {kvs : List (D × W)} {v : V} (e : η[n]? = some (.dct kvs)) (rv : RepW Γ G ρ (.ref n) v) : ∃ p ks, v = .ref p ∧ ρ n = some p ∧ live η n ∧ H p = some (.dK ks) ∧ RepKs Γ G ρ kvs ks := by
  obtain ⟨a, h1, rfl⟩ := rv
  obtain ⟨b, vs, h2, _, h3, h4⟩ := S.obj n _ e
  rw [h1] at h2; cases h2
  exact ⟨a, vs, rfl, h1, ⟨_, e, by simp⟩, h3, h4⟩
end
end Ip

set_option Elab.async false
set_option linter.all false
set_option maxRecDepth 100000
set_option maxHeartbeats 400000
/-! IpSnd2: expressions. -/
namespace Ip
open PySem PySem.Spec PyProof.Rows L2

/-- a comprehension's turn: its tests, its item -/
def GenO (Γ : Env) (c : Cfg) (Z : WX) (X : Cx) : Ex → Expr → List Expr → Prop
  | .yld x, elt, [] => PE X elt (tI Γ Z (ev c x))
  | .gif t r, elt, cd :: ifs => PT X cd (tT Γ Z (ev c t)) ∧ GenO Γ c Z X r elt ifs
  | _, _, _ => False
def SndE (Γ : Env) (B : Tb) (c : Cfg) (x : Ex) : Prop := ∀ (S : SC) (k : Nat) (Z : WX) (X : Cx), Gd Γ c S k Z X →
  (∀ e, okE B x S e = true → PE X e (tI Γ Z (ev c x)) ∧ PT X e (tT Γ Z (ev c x))) ∧ (∀ es, okL B x S es = true → AllE Γ c Z X x es) ∧ (∀ elt ifs, okG B x S elt ifs = true → GenO Γ c Z X x elt ifs)

section
variable {Γ : Env} {B : Tb} {c : Cfg} {S : SC} {k : Nat} {Z : WX} {X : Cx}
/-- a value's reading gives the test's -/
theorem pt_of {e : Expr} {f : List (Option W) → M W} (hp : plainT e = true) (h : PE X e (tI Γ Z f)) : PT X e (tT Γ Z f) :=
  PT.imp (pt_val h fun w => isTrue_plain hp _ w) fun σ H Q t => tT_B t
theorem both {e : Expr} {f : List (Option W) → M W} (hp : plainT e = true) (h : PE X e (tI Γ Z f)) : PE X e (tI Γ Z f) ∧ PT X e (tT Γ Z f) := ⟨h, pt_of hp h⟩

/-- behind a truth value -/
theorem asB_ok {α : Type} {w : W} {kk : Bool → M α} {Rp : Hp → Rho → α → Hp → Prop} {σ : L2.St} {ρ : Rho} {G : Hp} {η : Hv} {H : Hp} (h : Fin Γ Z Rp σ ρ G η H ((asB w >>= kk) η)) : ∃ b, w = .d (.bl b) ∧ Fin Γ Z Rp σ ρ G η H (kk b η) := by
  cases w with
  | d x => cases x <;> first | exact h.elim | exact ⟨_, rfl, h⟩
  | ref n => exact h.elim
  | clo l cs => exact h.elim
/-- test a, then the rest -/
theorem tst {fa : List (Option W) → M W} {kk : Bool → List (Option W) → M W} {Rp : VK} {σ : L2.St} {H : Hp} (h : tI Γ Z (fun ν => do let x ← fa ν; let b ← asB x; kk b ν) σ H Rp) : tT Γ Z fa σ H fun b H1 => tI Γ Z (fun ν => kk b ν) σ H1 Rp := by
  obtain ⟨ν, η, ρ, G, S, T, h⟩ := h
  refine ⟨ν, η, ρ, G, S, T, Fin.bind h _ fun w ρ1 G1 η1 H1 S1 E1 h1 => ?_⟩
  obtain ⟨b, rfl, h2⟩ := asB_ok h1
  exact ⟨b, rfl, ν, η1, ρ1, G1, S1, T.mono E1.same E1.rho, h2⟩
theorem tstT {fa : List (Option W) → M W} {kk : Bool → List (Option W) → M W} {Rp : Bool → Hp → Prop} {σ : L2.St} {H : Hp} (h : tT Γ Z (fun ν => do let x ← fa ν; let b ← asB x; kk b ν) σ H Rp) : tT Γ Z fa σ H fun b H1 => tT Γ Z (fun ν => kk b ν) σ H1 Rp := by
  obtain ⟨ν, η, ρ, G, S, T, h⟩ := h
  refine ⟨ν, η, ρ, G, S, T, Fin.bind h _ fun w ρ1 G1 η1 H1 S1 E1 h1 => ?_⟩
  obtain ⟨b, rfl, h2⟩ := asB_ok h1
  exact ⟨b, rfl, ν, η1, ρ1, G1, S1, T.mono E1.same E1.rho, h2⟩
theorem tT_pure {f : List (Option W) → M W} {b : Bool} (hf : ∀ ν, f ν = Pure.pure (.d (.bl b))) {σ : L2.St} {H : Hp} {Q : Bool → Hp → Prop} (h : tT Γ Z f σ H Q) : Q b H := by
  obtain ⟨ν, η, ρ, G, S, T, h⟩ := h
  rw [hf] at h
  obtain ⟨b', e, q⟩ := h ρ G H S (Ext.refl _ _ _ _)
  cases e
  exact q
theorem tI_bl {f : List (Option W) → M W} {b : Bool} (hf : ∀ ν, f ν = Pure.pure (.d (.bl b))) {σ : L2.St} {H : Hp} {Q : VK} (h : tI Γ Z f σ H Q) : Q (.bl b) H :=
  tI_pure (v := .bl b) hf (fun _ => .bl b) h
/-- a test's reading as a value's -/
theorem tI_T {f : List (Option W) → M W} {σ : L2.St} {H : Hp} {Q : VK} (hb : ∀ ν η w η', f ν η = .ok w η' → ∃ b, w = .d (.bl b)) (h : tI Γ Z f σ H Q) : tI Γ Z f σ H fun x H1 => ∃ c, x = .bl c ∧ Q (.bl c) H1 := by
  obtain ⟨ν, η, ρ, G, S, T, h⟩ := h
  refine ⟨ν, η, ρ, G, S, T, ?_⟩
  cases e : f ν η with
  | ok w η' =>
    rw [e] at h
    obtain ⟨b, rfl⟩ := hb ν η w η' e
    exact fun ρ' G' H' S' E' v rv => by
      cases rv
      exact ⟨b, rfl, h ρ' G' H' S' E' _ (.bl b)⟩
  | exc x η' => rw [e] at h; exact h
  | bad => rw [e] at h; exact h

/-- a call of a def of one's own -/
theorem call_ok (g : Gd Γ c S k Z X) {i : Nat} {x : Str} {es : List Expr} {xs : Ex} {md : Nat} {p pos : Pos} (hf : Γ.ft[i]? = some (x, es.length)) (hx : S.glb x = true) (h : AllE Γ c Z X xs es) : PE X (.Call (.Name x p) es [] pos) (tI Γ Z (ev c (.call md i xs))) := by
  obtain ⟨f, fd, ps, hl, hm, hk, hb, _, hF⟩ := g.fns.run i x _ hf
  simp only [SC.glb, Bool.and_eq_true] at hx
  have hgl := g.gl hx.1
  have hdb := (nodbg_ok hx.2).1
  have F := hF md
  rw [← g.P, ← g.w, ← g.K, ← g.mg, ← g.base] at F
  rw [← g.mg] at hm
  rw [← g.K] at hk hb
  have core : ∀ σ H Q, tI Γ Z (ev c (.call md i xs)) σ H Q → tA Γ Z (evl c xs) σ H fun vs H1 => spF Γ es.length (c.call md i) vs H1 Q (WE Z σ) := by
    intro σ H Q t
    have e2 : ev c (.call md i xs) = fun ν => (do let ws ← evl c xs ν; c.call md i ws) := by funext ν; simp [ev]
    rw [e2] at t
    obtain ⟨ν, η, ρ, G, S', T, t⟩ := t
    refine ⟨ν, η, ρ, G, S', T, Fin.bindE t _ fun ws ρ1 G1 η1 H1 ee S1 E1 h1 vs rs => ⟨by rw [rs.length, h.len _ _ _ _ ee], ws, η1, ρ1, G1, S1, rs, ?_⟩⟩
    cases e : c.call md i ws η1 with
    | ok w η' => rw [e] at h1; exact h1
    | exc d η' => rw [e] at h1; exact h1
    | bad => rw [e] at h1; exact h1
  cases es with
  | nil =>
    have hxs := h.nilOf
    subst hxs
    refine ⟨fun pins s σ H Q I t => ?_⟩
    have t2 := core σ H Q t
    obtain ⟨ν, η, ρ, G, S', T, t3⟩ := t2
    have t4 := t3 ρ G H S' (Ext.refl _ _ _ _) [] .nil
    refine wpAny_Call_Name_kw (ld_glob I hgl hm ?_ hdb)
    exact PySem.W.callWith_K0 I.kIn hk (run_fnG (us := []) (vs := []) (E := WE Z) F g.room g.gd hb (passAt g.tk σ) I .nil t4)
  | cons e es =>
    have hpa := AllE.pa h
    have st := h.stars
    simp only [List.all_cons, Bool.and_eq_true] at st
    refine ⟨fun pins s σ H Q I t => ?_⟩
    have t2 := core σ H Q t
    refine wpAny_Call_Name_kw (ld_glob I hgl hm ?_ hdb)
    refine PySem.W.callWith_K (h₀ := X.base) I.ok.mod.kin hk (thn (hpa.run pos pins s σ H _ I t2) fun us s1 ⟨vs, H1, I1, r, q⟩ => ⟨I1.kIn, ?_⟩) (star_of st.1 _ _) (noSplat st.2 _ _)
    exact run_fnG (E := WE Z) F g.room g.gd hb (passAt g.tk σ) I1 r q
theorem pw_bool {op : PySem.BoolOp} {vs : List Expr} {pos : Pos} {t : TT} (h : PT X (.BoolOp op vs pos) t) : PW X (.BoolOp op vs pos) t := ⟨fun w pins s σ H Q I q => h.run pins s σ H Q I q⟩
theorem pt_ifExp {ce a b : Expr} {pos : Pos} {tA ta tb : TT} (hc : PT X ce tA) (ha : PT X a ta) (hb : PT X b tb) : PT X (.IfExp ce a b pos) (fun σ H Q => tA σ H fun k H1 => if k = true then ta σ H1 Q else tb σ H1 Q) := by
  refine ⟨fun pins s σ H Q I h => ?_⟩
  show wpAny _ _ (do if ← isTrue ce X.env (eval ce X.env) then isTrue a X.env (eval a X.env) else isTrue b X.env (eval b X.env)) _ _ _
  refine wpAny_bind (thn (hc.run pins s σ H _ I h) fun d s1 ⟨H1, I1, q1⟩ => ?_)
  cases d with
  | true => exact ha.run pins s1 σ H1 Q I1 q1
  | false => exact hb.run pins s1 σ H1 Q I1 q1
theorem prM_noexc {g : List D → Option D} {ws : List W} {η η' : Hv} {e : D} : prM g ws η = .exc e η' → False := by
  intro h
  unfold prM at h
  rw [M.bind_ap] at h
  unfold asR at h
  cases e1 : rdWs η ws with
  | none => rw [e1] at h; cases h
  | some ds =>
    rw [e1] at h
    simp only at h
    rw [M.bind_ap] at h
    cases e2 : g ds with
    | none => rw [e2] at h; cases h
    | some z => rw [e2] at h; cases h
theorem prM_val {g : List D → Option D} {ws : List W} {η η' : Hv} {w : W} (h : prM g ws η = .ok w η') : ∃ ds z, rdWs η ws = some ds ∧ g ds = some z ∧ w = .d z ∧ η' = η := by
  unfold prM at h
  rw [M.bind_ap] at h
  unfold asR at h
  cases e1 : rdWs η ws with
  | none => rw [e1] at h; cases h
  | some ds =>
    rw [e1] at h
    simp only at h
    rw [M.bind_ap] at h
    cases e2 : g ds with
    | none => rw [e2] at h; cases h
    | some z => rw [e2] at h; cases h; exact ⟨ds, z, rfl, e2, rfl, rfl⟩
theorem chkL_ok {α : Type} {w : W} {m : M α} {Rp : Hp → Rho → α → Hp → Prop} {σ : L2.St} {ρ : Rho} {G : Hp} {η : Hv} {H : Hp} (h : Fin Γ Z Rp σ ρ G η H ((do let _ ← chkL w; m) η)) : ∃ n ws, w = .ref n ∧ η[n]? = some (.lst ws) ∧ Fin Γ Z Rp σ ρ G η H (m η) := by
  rw [M.bind_ap] at h
  unfold chkL at h
  cases w with
  | d x => exact h.elim
  | clo l cs => exact h.elim
  | ref n =>
    simp only at h
    cases e : η[n]? with
    | none => rw [e] at h; exact h.elim
    | some o =>
      rw [e] at h
      cases o with
      | lst ws => exact ⟨n, ws, rfl, e, h⟩
      | dead => exact h.elim
      | dct _ => exact h.elim
      | cel _ => exact h.elim
theorem few1 {y : Expr} (h : notStar y = true) {cpos : Pos} {env : PySem.Env} : ((backTo cpos (starEach [y] env)).all (fun x => !x.1) && (backToKw cpos (keywordEach [] env)).all (fun x => x.1.isSome)
      && decide (([y] : List Expr).length + ([] : List Keyword).length + (if ([] : List Keyword).isEmpty then 0 else 1) < 30)) = true := by
  rw [star_of h]
  rfl
theorem Fin.badE {α : Type} {Rp : Hp → Rho → α → Hp → Prop} {σ : L2.St} {ρ : Rho} {G : Hp} {η : Hv} {H : Hp} {C : Prop} (h : Fin Γ Z Rp σ ρ G η H .bad) : C := False.elim h
theorem frzW_val {w : W} {η : Hv} : (∃ x, w = .d x ∧ frzW w η = .ok (.d x) η) ∨ (∃ n ws ds, w = .ref n ∧ η[n]? = some (.lst ws) ∧ dats ws = some ds ∧ frzW w η = .ok (.d (.lst ds)) (η.set n .dead)) ∨ (∃ n kvs ps, w = .ref n ∧ η[n]? = some (.dct kvs) ∧ datP kvs = some ps ∧ frzW w η = .ok (.d (.dct ps)) (η.set n .dead)) ∨ frzW w η = .bad := by
  cases w with
  | d x => exact .inl ⟨x, rfl, rfl⟩
  | clo l cs => exact .inr (.inr (.inr rfl))
  | ref n =>
    unfold frzW
    simp only
    cases e : η[n]? with
    | none => exact .inr (.inr (.inr rfl))
    | some o =>
      cases o with
      | lst ws =>
        simp only
        cases e2 : dats ws with
        | none => exact .inr (.inr (.inr rfl))
        | some ds => exact .inr (.inl ⟨n, ws, ds, rfl, e, e2, rfl⟩)
      | dead => exact .inr (.inr (.inr rfl))
      | dct kvs =>
        simp only
        cases e2 : datP kvs with
        | none => exact .inr (.inr (.inr rfl))
        | some ds => exact .inr (.inr (.inl ⟨n, kvs, ds, rfl, e, e2, rfl⟩))
      | cel _ => exact .inr (.inr (.inr rfl))
theorem RepP.of_ks {G : Hp} {ρ : Rho} : ∀ {kvs : List (D × W)} {ks : List (Key × V)} {ps : List (D × D)}, RepKs Γ G ρ kvs ks → datP kvs = some ps → RepP Γ G ps ks
  | _, _, _, .nil, e => by cases e; exact .nil
  | (k, .d x) :: r, _, ps, .cons hk h t, e => by
    have e : (datP r).map ((k, x) :: ·) = some ps := e
    cases q : datP r with
    | none => rw [q] at e; cases e
    | some qs =>
      rw [q] at e
      cases e
      exact .cons hk h (RepP.of_ks t q)
  | (_, .ref _) :: _, _, _, .cons _ _ _, e => by cases e
  | (_, .clo _ _) :: _, _, _, .cons _ _ _, e => by cases e
theorem frzW_ok {w : W} {Rp : Hp → Rho → W → Hp → Prop} {σ : L2.St} {ρ : Rho} {G : Hp} {η : Hv} {H : Hp} (h : Fin Γ Z Rp σ ρ G η H (frzW w η)) : (∃ x, w = .d x ∧ Fin Γ Z Rp σ ρ G η H (.ok (.d x) η)) ∨ (∃ n ws ds, w = .ref n ∧ η[n]? = some (.lst ws) ∧ dats ws = some ds ∧ Fin Γ Z Rp σ ρ G η H (.ok (.d (.lst ds)) (η.set n .dead))) ∨ (∃ n kvs ps, w = .ref n ∧ η[n]? = some (.dct kvs) ∧ datP kvs = some ps ∧ Fin Γ Z Rp σ ρ G η H (.ok (.d (.dct ps)) (η.set n .dead))) := by
  rcases frzW_val (w := w) (η := η) with ⟨x, h1, e⟩ | ⟨n, ws, ds, h1, h2, h3, e⟩ | ⟨n, ws, ds, h1, h2, h3, e⟩ | e
  · rw [e] at h; exact .inl ⟨x, h1, h⟩
  · rw [e] at h; exact .inr (.inl ⟨n, ws, ds, h1, h2, h3, h⟩)
  · rw [e] at h; exact .inr (.inr ⟨n, ws, ds, h1, h2, h3, h⟩)
  · rw [e] at h; exact Fin.badE h
theorem asI_ok {α : Type} {w : W} {m : M α} {Rp : Hp → Rho → α → Hp → Prop} {σ : L2.St} {ρ : Rho} {G : Hp} {η : Hv} {H : Hp} (h : Fin Γ Z Rp σ ρ G η H ((do let _ ← asI w; m) η)) : ∃ i, w = .d (.int i) ∧ Fin Γ Z Rp σ ρ G η H (m η) := by
  cases w with
  | d x => cases x <;> first | exact h.elim | exact ⟨_, rfl, h⟩
  | ref n => exact h.elim
  | clo l cs => exact h.elim
theorem slice00 {sub : Nat → Nat → Bool} {x z : D} (h : dprim sub (.slice false false) [x] = some z) : dsl x none none = some z := by
  cases x <;> first | (simp [dprim] at h; done) | exact h
theorem slice01 {sub : Nat → Nat → Bool} {x y z : D} (h : dprim sub (.slice false true) [x, y] = some z) : ∃ j, y = .int j ∧ dsl x none (some j) = some z := by
  cases x <;> cases y <;> first | (simp [dprim] at h; done) | exact ⟨_, rfl, h⟩
theorem slice10 {sub : Nat → Nat → Bool} {x y z : D} (h : dprim sub (.slice true false) [x, y] = some z) : ∃ j, y = .int j ∧ dsl x (some j) none = some z := by
  cases x <;> cases y <;> first | (simp [dprim] at h; done) | exact ⟨_, rfl, h⟩
theorem slice11 {sub : Nat → Nat → Bool} {x y u z : D} (h : dprim sub (.slice true true) [x, y, u] = some z) : ∃ i j, y = .int i ∧ u = .int j ∧ dsl x (some i) (some j) = some z := by
  cases x <;> cases y <;> cases u <;> first | (simp [dprim] at h; done) | exact ⟨_, _, rfl, rfl, h⟩
theorem rd_three {η : Hv} {a b d : W} {ds : List D} (h : rdWs η [a, b, d] = some ds) : ∃ x y z, ds = [x, y, z] ∧ rdW η a = some x ∧ rdW η b = some y ∧ rdW η d = some z := by
  simp only [rdWs] at h
  cases e1 : rdW η a with
  | none => rw [e1] at h; cases h
  | some x =>
    rw [e1] at h
    simp only at h
    cases e2 : rdW η b with
    | none => rw [e2] at h; cases h
    | some y =>
      rw [e2] at h
      simp only at h
      cases e3 : rdW η d with
      | none => rw [e3] at h; cases h
      | some z => rw [e3] at h; cases h; exact ⟨x, y, z, rfl, rfl, rfl, rfl⟩
theorem get?L {α : Type} [BEq α] [LawfulBEq α] {o : Option α} {x : α} (h : (o == some x) = true) : o = some x := beq_iff_eq.mp h
theorem snd_nil : SndE Γ B c .nil := by
  intro S k Z X g
  refine ⟨fun e h => by (cases h), fun es h => ?_, fun _ _ h => (by cases h)⟩
  cases es with
  | nil => trivial
  | cons _ _ => cases h
theorem snd_cons {a r : Ex} (iha : SndE Γ B c a) (ihr : SndE Γ B c r) : SndE Γ B c (.cons a r) := by
  intro S k Z X g
  refine ⟨fun e h => by (cases h), fun es h => ?_, fun _ _ h => (by cases h)⟩
  cases es with
  | nil => cases h
  | cons e es =>
    have h : (notStar e && okE B a S e && okL B r S es) = true := h
    simp only [Bool.and_eq_true] at h
    exact ⟨h.1.1, ((iha S k Z X g).1 e h.1.2).1, (ihr S k Z X g).2.1 es h.2⟩
theorem snd_cst (hB1 : Γ.gs = B.gs) (hB3 : Γ.ks = B.ks) {d : D} : SndE Γ B c (.cst d) := by
  intro S k Z X g
  refine ⟨fun e h => ?_, fun es h => (by cases h), fun _ _ h => (by cases h)⟩
  have hev : ∀ ν, ev c (.cst d) ν = Pure.pure (.d d) := fun ν => by simp [ev]
  rcases fCst_inv (show fCst B S d e = true from h) with ⟨kk, j, pos, rfl, h⟩ | ⟨y, pos, rfl, hg, h3⟩
  · refine both rfl ?_
    cases kk <;> cases d <;> first | (cases h; done) | skip
    · exact PE.imp pe_non fun σ H Q t => tI_pure hev (fun _ => .non) t
    · have h := beq_iff_eq.mp (show (_ == _) = true from h)
      subst h
      exact PE.imp pe_bl fun σ H Q t => tI_pure hev (fun _ => .bl _) t
    · have h := of_decide_eq_true (show decide _ = true from h)
      subst h
      exact PE.imp pe_int fun σ H Q t => tI_pure hev (fun _ => .int _) t
    · have h := of_decide_eq_true (show decide _ = true from h)
      subst h
      exact PE.imp pe_str fun σ H Q t => tI_pure hev (fun _ => .str _) t
  · simp only [Bool.and_eq_true, SC.glb] at hg
    obtain ⟨h1, h2⟩ := hg
    refine both rfl ?_
    rcases h3 with ⟨j, rfl, hj⟩ | ⟨n, rfl, h3⟩ | h3
    · rw [← hB1] at hj
      obtain ⟨a, ha⟩ := g.fns.gl j y hj
      exact PE.imp (pe_glob (v := .ref a) (g.gl h1) (by rw [g.mg]; exact ha) rfl (nodbg_ok h2).1) fun σ H Q t => tI_pure hev (fun _ => .glo hj ha) t
    · simp only [tyL, List.contains_cons, Bool.or_eq_true] at h3
      simp only [List.contains_nil, Bool.false_eq_true, or_false, Prod.mk.injEq, beq_iff_eq] at h3
      rcases h3 with ⟨rfl, rfl⟩ | ⟨rfl, rfl⟩ | ⟨rfl, rfl⟩ | ⟨rfl, rfl⟩ | ⟨rfl, rfl⟩ | ⟨rfl, rfl⟩ | ⟨rfl, rfl⟩
      · exact PE.imp (pe_bltn (v := .ty "int") (g.gl h1) (g.blt (by decide +kernel)) boot_int rfl (by decide +kernel) (by decide +kernel)) fun σ H Q t => tI_pure hev (fun _ => .ty _) t
      · exact PE.imp (pe_bltn (v := .ty "bool") (g.gl h1) (g.blt (by decide +kernel)) boot_bool rfl (by decide +kernel) (by decide +kernel)) fun σ H Q t => tI_pure hev (fun _ => .ty _) t
      · exact PE.imp (pe_bltn (v := .ty "str") (g.gl h1) (g.blt (by decide +kernel)) boot_str rfl (by decide +kernel) (by decide +kernel)) fun σ H Q t => tI_pure hev (fun _ => .ty _) t
      · exact PE.imp (pe_bltn (v := .ty "tuple") (g.gl h1) (g.blt (by decide +kernel)) boot_tuple rfl (by decide +kernel) (by decide +kernel)) fun σ H Q t => tI_pure hev (fun _ => .ty _) t
      · exact PE.imp (pe_bltn (v := .ty "list") (g.gl h1) (g.blt (by decide +kernel)) boot_list rfl (by decide +kernel) (by decide +kernel)) fun σ H Q t => tI_pure hev (fun _ => .ty _) t
      · exact PE.imp (pe_bltn (v := .ty "dict") (g.gl h1) (g.blt (by decide +kernel)) boot_dict rfl (by decide +kernel) (by decide +kernel)) fun σ H Q t => tI_pure hev (fun _ => .ty _) t
      · exact PE.imp (pe_bltn (v := .ty "ValueError") (g.gl h1) (g.blt (by decide +kernel)) PyProof.Rows.Boot.«ValueError» rfl (by decide +kernel) (by decide +kernel)) fun σ H Q t => tI_pure hev (fun _ => .ty _) t
    · rw [← hB3] at h3
      obtain ⟨v, u, k1, k2, k3⟩ := g.fns.fx.kst y d h3
      exact PE.imp (pe_glob (v := v) (g.gl h1) (by rw [g.mg]; exact k1) k2 (nodbg_ok h2).1) fun σ H Q t => tI_pure hev k3 t
theorem snd_var {i : Nat} : SndE Γ B c (.var i) := by
  intro S k Z X g
  refine ⟨fun e h => ?_, fun es h => (by cases h), fun _ _ h => (by cases h)⟩
  obtain ⟨y, pos, rfl, hv⟩ := fVar_inv (show fVar S i e = true from h)
  simp only [SC.var, Bool.and_eq_true] at hv
  exact both rfl (PE.imp (pe_var (g.ix hv.1.1) (g.vis hv.1.2) (nodbg_ok hv.2).1 (nodbg_ok hv.2).2) fun σ H Q t => tI_var t)
theorem snd_bin {o : Bop} {es : Ex} (ih : SndE Γ B c es) : SndE Γ B c (.pr (.bin o) es) := by
  intro S k Z X g
  refine ⟨fun e h => ?_, fun es h => (by cases h), fun _ _ h => (by cases h)⟩
  obtain ⟨l, op, r, pos, rfl, h1, h2⟩ := fBin_inv (show fBin o e (okL B es S) = true from h)
  obtain ⟨a, b, rfl, p1, p2⟩ := ((ih S k Z X g).2.1 _ h2).two
  refine both rfl (PE.imp (pe_op (opRule g h1) p1 p2) fun σ H Q t => ?_)
  rw [ev_pr2 rfl] at t
  exact prim_op (fun _ _ => rfl) t
theorem snd_cmp {o : Cop} {es : Ex} (ih : SndE Γ B c es) : SndE Γ B c (.pr (.cmp o) es) := by
  intro S k Z X g
  refine ⟨fun e h => ?_, fun es h => (by cases h), fun _ _ h => (by cases h)⟩
  obtain ⟨l, op, r, pos, rfl, h1, h2, h3⟩ := fCmp_inv (show fCmp o e (okL B es S) = true from h)
  obtain ⟨a, b, rfl, p1, p2⟩ := ((ih S k Z X g).2.1 _ h3).two
  have go : ∀ σ H Q, tI Γ Z (ev c (.pr (.cmp o) (.cons a (.cons b .nil)))) σ H Q → tOp (pr2 Γ fun x y => (dcmp o x y).map .bl) (tI Γ Z (ev c a)) (tI Γ Z (ev c b)) σ H Q := fun σ H Q t => by
    rw [ev_pr2 rfl] at t
    exact prim_op (fun _ _ => rfl) t
  exact ⟨PE.imp (pe_cmpR (copRule g h1) p1 p2 h2) go, PT.imp (pt_cmpR (copRule g h1) p1 p2 h2) fun σ H Q t => go σ H _ (tT_B t)⟩
theorem snd_neg {es : Ex} (ih : SndE Γ B c es) : SndE Γ B c (.pr .neg es) := by
  intro S k Z X g
  refine ⟨fun e h => ?_, fun es h => (by cases h), fun _ _ h => (by cases h)⟩
  obtain ⟨r, pos, rfl, hv⟩ := fNeg_inv (show fNeg e (okL B es S) = true from h)
  obtain ⟨a, rfl, p1⟩ := ((ih S k Z X g).2.1 _ hv).one
  refine both rfl (PE.imp (pe_un (un_negD (Γ := Γ)) p1) fun σ H Q t => ?_)
  rw [ev_pr1 rfl] at t
  exact prim_un (fun d => by cases d <;> rfl) t
theorem snd_item {es : Ex} (ih : SndE Γ B c es) : SndE Γ B c (.pr .item es) := by
  intro S k Z X g
  refine ⟨fun e h => ?_, fun es h => (by cases h), fun _ _ h => (by cases h)⟩
  obtain ⟨l, r, pos, rfl, h1, h2⟩ := fItem_inv (show fItem e (okL B es S) = true from h)
  obtain ⟨a, b, rfl, p1, p2⟩ := ((ih S k Z X g).2.1 _ h2).two
  refine both rfl (PE.imp (pe_ix (ix_D g.K (by have := g.room.un; omega)) p1 p2 (plainIx_of h1)) fun σ H Q t => ?_)
  rw [ev_pr2 rfl] at t
  exact prim_op (fun _ _ => rfl) t
theorem snd_tup {es : Ex} (ih : SndE Γ B c es) : SndE Γ B c (.pr .tup es) := by
  intro S k Z X g
  refine ⟨fun e h => ?_, fun es h => (by cases h), fun _ _ h => (by cases h)⟩
  obtain ⟨as, j, pos, rfl, hv⟩ := fTup_inv (show fTup e (okL B es S) = true from h)
  refine both rfl (PE.imp (pe_tup ((ih S k Z X g).2.1 _ hv).pa) fun σ H Q t => ?_)
  rw [ev_prS rfl] at t
  exact disp_ok (mk := .tup) (ho := .tup) (fun _ => rfl) (fun _ _ z => by cases z) (fun G ds vs p hp r => .tup (SqT.of hp) r) t
theorem snd_lst {es : Ex} (ih : SndE Γ B c es) : SndE Γ B c (.pr .lst es) := by
  intro S k Z X g
  refine ⟨fun e h => ?_, fun es h => (by cases h), fun _ _ h => (by cases h)⟩
  obtain ⟨as, pos, rfl, hv⟩ := fLst_inv (show fLst e (okL B es S) = true from h)
  refine both rfl (PE.imp (pe_lst ((ih S k Z X g).2.1 _ hv).pa) fun σ H Q t => ?_)
  rw [ev_prS rfl] at t
  exact disp_ok (mk := .lst) (ho := .lst) (fun _ => rfl) (fun _ _ z => by cases z) (fun G ds vs p hp r => .lst (.inl hp) r) t
theorem snd_fn {f : Fn} {es : Ex} (ih : SndE Γ B c es) : SndE Γ B c (.pr (.fn f) es) := by
  intro S k Z X g
  refine ⟨fun e h => ?_, fun es h => (by cases h), fun _ _ h => (by cases h)⟩
  obtain ⟨q, a, as, pos, rfl, h1, h3, h5⟩ := fFn_inv (show fFn S f e (okL B es S) = true from h)
  have al := (ih S k Z X g).2.1 _ h5
  have st := al.stars
  simp only [List.all_cons, Bool.and_eq_true] at st
  have go : ∀ σ H Q, tI Γ Z (ev c (.pr (.fn f) es)) σ H Q → tCB (prL Γ (dfn c.sub f)) (tA Γ Z (evl c es)) σ H Q := fun σ H Q t => by
    rw [ev_pr rfl] at t
    exact prim_call t
  refine both rfl (PE.imp ?_ go)
  have hr := fnRule g h1
  have hb := fn_boot f
  have hm := g.blt (fn_blt f)
  have hn := fn_name f
  have hd := fn_dbg f
  cases f <;> first
    | exact pe_callB hr (g.gl h3) hm hb al.pa hn hd (star_of st.1 _ _) (noSplat st.2 _ _)
    | exact pe_callTy hr (g.gl h3) hm hb al.pa hn hd (star_of st.1 _ _) (noSplat st.2 _ _)
theorem snd_slice {lo hi : Bool} {es : Ex} (ih : SndE Γ B c es) : SndE Γ B c (.pr (.slice lo hi) es) := by
  intro S k Z X g
  refine ⟨fun e h => ?_, fun es h => (by cases h), fun _ _ h => (by cases h)⟩
  obtain ⟨l, le, he, pos, p2, rfl, h0, h1, h2, h3⟩ := fSlice_inv (show fSlice lo hi e (okL B es S) = true from h)
  have al := (ih S k Z X g).2.1 _ h3
  refine both rfl ?_
  cases le with
  | none =>
    cases he with
    | none =>
      obtain ⟨a, rfl, p1⟩ := al.one
      refine PE.imp (pe_slice (sl_D (Γ := Γ) g.K) p1 po_none po_none) fun σ H Q t => ?_
      rw [ev_pr1 rfl] at t
      obtain ⟨ν, η, ρ, G, S', T, t⟩ := t
      refine ⟨ν, η, ρ, G, S', T, Fin.bind t _ fun w ρ1 G1 η1 H1 S1 E1 t1 x rx => ?_⟩
      obtain ⟨ds, z, e1, e2, t2⟩ := prM_ok t1
      obtain ⟨d, rfl, r1⟩ := rd_one e1
      subst h1 h2
      exact ⟨G1, d, z, S1.same, rx.read S1 r1, slice00 e2, fun v H' hs r => t2 ρ1 (grow G1 H1 H') H' (S1.grow hs) (Ext.grow S1 hs) v r⟩
    | some hx =>
      obtain ⟨a, b, rfl, p1, p2⟩ := al.two
      refine PE.imp (pe_slice (sl_D (Γ := Γ) g.K) p1 po_none (po_some p2)) fun σ H Q t => ?_
      rw [ev_pr2 rfl] at t
      obtain ⟨ν, η, ρ, G, S', T, t⟩ := t
      refine ⟨ν, η, ρ, G, S', T, Fin.bind t _ fun w ρ1 G1 η1 H1 S1 E1 t1 x rx => ?_⟩
      refine ⟨ν, η1, ρ1, G1, S1, T.mono E1.same E1.rho, Fin.bind t1 _ fun w2 ρ2 G2 η2 H2 S2 E2 t2 y ry => ?_⟩
      obtain ⟨ds, z, e1, e2, t3⟩ := prM_ok t2
      obtain ⟨d, d2, rfl, r1, r2⟩ := rd_two e1
      subst h1 h2
      obtain ⟨j, rfl, e3⟩ := slice01 e2
      refine ⟨j, (ry.read S2 r2).int, G2, d, z, S2.same, (rx.mono E2.same E2.rho).read S2 r1, e3, fun v H' hs r => t3 ρ2 (grow G2 H2 H') H' (S2.grow hs) (Ext.grow S2 hs) v r⟩
  | some lx =>
    cases he with
    | none =>
      obtain ⟨a, b, rfl, p1, p2⟩ := al.two
      refine PE.imp (pe_slice (sl_D (Γ := Γ) g.K) p1 (po_some p2) po_none) fun σ H Q t => ?_
      rw [ev_pr2 rfl] at t
      obtain ⟨ν, η, ρ, G, S', T, t⟩ := t
      refine ⟨ν, η, ρ, G, S', T, Fin.bind t _ fun w ρ1 G1 η1 H1 S1 E1 t1 x rx => ?_⟩
      refine ⟨ν, η1, ρ1, G1, S1, T.mono E1.same E1.rho, Fin.bind t1 _ fun w2 ρ2 G2 η2 H2 S2 E2 t2 y ry => ?_⟩
      obtain ⟨ds, z, e1, e2, t3⟩ := prM_ok t2
      obtain ⟨d, d2, rfl, r1, r2⟩ := rd_two e1
      subst h1 h2
      obtain ⟨j, rfl, e3⟩ := slice10 e2
      refine ⟨j, (ry.read S2 r2).int, G2, d, z, S2.same, (rx.mono E2.same E2.rho).read S2 r1, e3, fun v H' hs r => t3 ρ2 (grow G2 H2 H') H' (S2.grow hs) (Ext.grow S2 hs) v r⟩
    | some hx =>
      subst h1 h2
      cases h0
theorem snd_attr {n : String} {es : Ex} (ih : SndE Γ B c es) : SndE Γ B c (.pr (.attr n) es) := by
  intro S k Z X g
  refine ⟨fun e h => ?_, fun es h => (by cases h), fun _ _ h => (by cases h)⟩
  obtain ⟨o, p, rfl, h1, h2⟩ := fAttr_inv (show fAttr n e (okL B es S) = true from h)
  obtain ⟨a, rfl, p1⟩ := ((ih S k Z X g).2.1 _ h2).one
  refine both rfl (PE.imp (pe_xattr p1 (base_of h1 _ _)) fun σ H Q t => ?_)
  rw [ev_pr1 rfl] at t
  obtain ⟨ν, η, ρ, G, S', T, t⟩ := t
  refine ⟨ν, η, ρ, G, S', T, Fin.bind t _ fun w ρ1 G1 η1 H1 S1 E1 t1 v rv => ?_⟩
  obtain ⟨ds, z, e1, e2, t2⟩ := prM_ok t1
  obtain ⟨d, rfl, r1⟩ := rd_one e1
  have ra := rv.read S1 r1
  cases d <;> first | (simp [dprim] at e2; done) | skip
  rename_i cc fs
  have e2 : fs.lookup n = some z := e2
  cases ra with
  | fix r =>
    cases r with
    | exc _ _ _ _ => cases e2
    | excF hp hx hm q1 q2 hy =>
      rename_i x C ad dd f v0 y _e
      obtain ⟨C2, fI, fd, f1, f2, f3, f4, f5, f6, f7⟩ := g.fns.fx.xcl _ _ _ hp hx
      rw [hm] at f1
      cases f1
      by_cases hn : n = f
      · subst hn
        have ez : z = y := by simpa [List.lookup] using e2.symm
        subst ez
        exact ⟨ad, C, dd, _, v0, rfl, by rw [g.K]; exact f6, by rw [g.K]; exact f3.no, S1.same _ _ q1, S1.same _ _ q2, by simp [List.lookup], t2 ρ1 G1 H1 S1 (Ext.refl _ _ _ _) _ hy⟩
      · have : (n == f) = false := beq_eq_false_iff_ne.mpr hn
        simp [List.lookup, this] at e2
theorem snd_pr {p : Pr} {es : Ex} (ih : SndE Γ B c es) : SndE Γ B c (.pr p es) := by
  cases p with
  | bin o => exact snd_bin ih
  | cmp o => exact snd_cmp ih
  | neg => exact snd_neg ih
  | item => exact snd_item ih
  | slice lo hi => exact snd_slice ih
  | tup => exact snd_tup ih
  | lst => exact snd_lst ih
  | fn f => exact snd_fn ih
  | attr n => exact snd_attr ih
  | _ => exact fun S k Z X g => ⟨fun e h => by (cases h), fun es h => (by cases h), fun _ _ h => (by cases h)⟩
theorem snd_slc {a b d : Ex} (iha : SndE Γ B c a) (ihb : SndE Γ B c b) (ihd : SndE Γ B c d) : SndE Γ B c (.slc a b d) := by
  intro S k Z X g
  refine ⟨fun e h => ?_, fun es h => (by cases h), fun _ _ h => (by cases h)⟩
  obtain ⟨x, y, z, pos, p2, rfl, h1, h2, h3⟩ := fSlc_inv (show fSlc e (okE B a S) (okE B b S) (okE B d S) = true from h)
  have p1 := ((iha S k Z X g).1 _ h1).1
  have p2 := ((ihb S k Z X g).1 _ h2).1
  have p3 := ((ihd S k Z X g).1 _ h3).1
  have e2 : ev c (.slc a b d) = fun ν => (do let x ← ev c a ν; let y ← ev c b ν; let _ ← asI y; let z ← ev c d ν; prM (dprim c.sub (.slice true true)) [x, y, z]) := by funext ν; simp [ev, prM]
  refine both rfl (PE.imp (pe_slice (sl_D (Γ := Γ) g.K) p1 (po_some p2) (po_some p3)) fun σ H Q t => ?_)
  rw [e2] at t
  obtain ⟨ν, η, ρ, G, S', T, t⟩ := t
  refine ⟨ν, η, ρ, G, S', T, Fin.bind t _ fun w ρ1 G1 η1 H1 S1 E1 t1 x rx => ?_⟩
  refine ⟨ν, η1, ρ1, G1, S1, T.mono E1.same E1.rho, Fin.bind t1 _ fun w2 ρ2 G2 η2 H2 S2 E2 t2 y ry => ?_⟩
  obtain ⟨i, rfl, t2⟩ := asI_ok t2
  cases ry
  refine ⟨i, rfl, ν, η2, ρ2, G2, S2, (T.mono E1.same E1.rho).mono E2.same E2.rho, Fin.bind t2 _ fun w3 ρ3 G3 η3 H3 S3 E3 t3 u ru => ?_⟩
  obtain ⟨ds, z, e1, e4, t4⟩ := prM_ok t3
  obtain ⟨d, d2, d3, rfl, r1, r2, r3⟩ := rd_three e1
  cases r2
  obtain ⟨i', j, e5, rfl, e3⟩ := slice11 e4
  cases e5
  have E13 := E2.trans E3
  exact ⟨j, (ru.read S3 r3).int, G3, d, z, S3.same, (rx.mono E13.same E13.rho).read S3 r1, e3, fun v H' hs r => t4 ρ3 (grow G3 H3 H') H' (S3.grow hs) (Ext.grow S3 hs) v r⟩
theorem snd_nt {a : Ex} (ih : SndE Γ B c a) : SndE Γ B c (.nt a) := by
  intro S k Z X g
  refine ⟨fun e h => ?_, fun es h => (by cases h), fun _ _ h => (by cases h)⟩
  obtain ⟨y, pos, rfl, hv⟩ := fNt_inv (show fNt e (okE B a S) = true from h)
  obtain ⟨h1, h2⟩ := (ih S k Z X g).1 _ hv
  have e2 : ev c (.nt a) = fun ν => (do let x ← ev c a ν; let b ← asB x; Pure.pure (W.d (.bl (!b)))) := by funext ν; simp [ev]
  refine ⟨PE.imp (pe_not h1) fun σ H Q t => ?_, PT.imp (pt_not h2) fun σ H Q t => ?_⟩
  · rw [e2] at t
    obtain ⟨ν, η, ρ, G, S', T, t⟩ := t
    refine ⟨ν, η, ρ, G, S', T, Fin.bind t _ fun w ρ1 G1 η1 H1 S1 E1 t1 v rv => ?_⟩
    obtain ⟨b, rfl, t2⟩ := asB_ok t1
    cases rv
    exact ⟨b, rfl, t2 ρ1 G1 H1 S1 (Ext.refl _ _ _ _) _ (.bl _)⟩
  · rw [e2] at t
    obtain ⟨ν, η, ρ, G, S', T, t⟩ := t
    refine ⟨ν, η, ρ, G, S', T, Fin.bind t _ fun w ρ1 G1 η1 H1 S1 E1 t1 => ?_⟩
    obtain ⟨b, rfl, t2⟩ := asB_ok t1
    obtain ⟨b', e, q⟩ := t2 ρ1 G1 H1 S1 (Ext.refl _ _ _ _)
    cases e
    exact ⟨b, rfl, q⟩
theorem snd_and {a b : Ex} (iha : SndE Γ B c a) (ihb : SndE Γ B c b) : SndE Γ B c (.and a b) := by
  intro S k Z X g
  refine ⟨fun e h => ?_, fun es h => (by cases h), fun _ _ h => (by cases h)⟩
  have e2 : ev c (.and a b) = fun ν => (do let x ← ev c a ν; let k ← asB x; if k then ev c b ν else Pure.pure (W.d (.bl false))) := by funext ν; simp [ev]
  have main : ∀ {vs : List Expr} {pos : Pos} {x y : Expr} {r : List Expr}, vs = x :: y :: r → PE X x (tI Γ Z (ev c a)) ∧ PT X x (tT Γ Z (ev c a)) → PE X (.BoolOp .And (y :: r) pos) (tI Γ Z (ev c b)) → PW X (.BoolOp .And (y :: r) pos) (tT Γ Z (ev c b)) →
      PE X (.BoolOp .And vs pos) (tI Γ Z (ev c (.and a b))) ∧ PT X (.BoolOp .And vs pos) (tT Γ Z (ev c (.and a b))) := by
    rintro vs pos x y r rfl ⟨q1, q2⟩ q3 q4
    refine ⟨PE.imp (pe_and q1 q3) fun σ H Q t => ?_, PT.imp (pw_and q2 q4).pt fun σ H Q t => ?_⟩
    · rw [e2] at t
      obtain ⟨ν, η, ρ, G, S', T, t⟩ := t
      refine ⟨ν, η, ρ, G, S', T, Fin.bind t _ fun w ρ1 G1 η1 H1 S1 E1 t1 v rv => ?_⟩
      obtain ⟨kk, rfl, t2⟩ := asB_ok t1
      cases rv
      refine ⟨kk, rfl, ?_⟩
      cases kk with
      | true => exact ⟨ν, η1, ρ1, G1, S1, T.mono E1.same E1.rho, t2⟩
      | false => exact t2 ρ1 G1 H1 S1 (Ext.refl _ _ _ _) _ (.bl _)
    · rw [e2] at t
      have t2 := tstT (kk := fun k ν => if k then ev c b ν else Pure.pure (W.d (.bl false))) t
      obtain ⟨ν, η, ρ, G, S', T, t3⟩ := t2
      refine ⟨ν, η, ρ, G, S', T, t3.imp fun G' ρ' w H' q => ?_⟩
      obtain ⟨kk, rfl, q⟩ := q
      refine ⟨kk, rfl, ?_⟩
      cases kk with
      | true => exact q
      | false => exact tT_pure (fun _ => rfl) q
  rcases fAnd_inv (show fAnd e (okE B a S) (okE B b S) = true from h) with ⟨x, y, pos, rfl, h1, h2⟩ | ⟨x, y, z, r, pos, rfl, h1, h2⟩
  · have hb := (ihb S k Z X g).1 _ h2
    exact main rfl ((iha S k Z X g).1 _ h1) (pe_one hb.1) (pw_and1 hb.2)
  · have hb := (ihb S k Z X g).1 _ h2
    exact main rfl ((iha S k Z X g).1 _ h1) hb.1 (pw_bool hb.2)
theorem snd_or {a b : Ex} (iha : SndE Γ B c a) (ihb : SndE Γ B c b) : SndE Γ B c (.or a b) := by
  intro S k Z X g
  refine ⟨fun e h => ?_, fun es h => (by cases h), fun _ _ h => (by cases h)⟩
  have e2 : ev c (.or a b) = fun ν => (do let x ← ev c a ν; let k ← asB x; if k then Pure.pure (W.d (.bl true)) else ev c b ν) := by funext ν; simp [ev]
  have main : ∀ {vs : List Expr} {pos : Pos} {x y : Expr} {r : List Expr}, vs = x :: y :: r → PE X x (tI Γ Z (ev c a)) ∧ PT X x (tT Γ Z (ev c a)) → PE X (.BoolOp .Or (y :: r) pos) (tI Γ Z (ev c b)) → PW X (.BoolOp .Or (y :: r) pos) (tT Γ Z (ev c b)) →
      PE X (.BoolOp .Or vs pos) (tI Γ Z (ev c (.or a b))) ∧ PT X (.BoolOp .Or vs pos) (tT Γ Z (ev c (.or a b))) := by
    rintro vs pos x y r rfl ⟨q1, q2⟩ q3 q4
    refine ⟨PE.imp (pe_or q1 q3) fun σ H Q t => ?_, PT.imp (pw_or q2 q4).pt fun σ H Q t => ?_⟩
    · rw [e2] at t
      obtain ⟨ν, η, ρ, G, S', T, t⟩ := t
      refine ⟨ν, η, ρ, G, S', T, Fin.bind t _ fun w ρ1 G1 η1 H1 S1 E1 t1 v rv => ?_⟩
      obtain ⟨kk, rfl, t2⟩ := asB_ok t1
      cases rv
      refine ⟨kk, rfl, ?_⟩
      cases kk with
      | false => exact ⟨ν, η1, ρ1, G1, S1, T.mono E1.same E1.rho, t2⟩
      | true => exact t2 ρ1 G1 H1 S1 (Ext.refl _ _ _ _) _ (.bl _)
    · rw [e2] at t
      have t2 := tstT (kk := fun k ν => if k then Pure.pure (W.d (.bl true)) else ev c b ν) t
      obtain ⟨ν, η, ρ, G, S', T, t3⟩ := t2
      refine ⟨ν, η, ρ, G, S', T, t3.imp fun G' ρ' w H' q => ?_⟩
      obtain ⟨kk, rfl, q⟩ := q
      refine ⟨kk, rfl, ?_⟩
      cases kk with
      | false => exact q
      | true => exact tT_pure (fun _ => rfl) q
  rcases fOr_inv (show fOr e (okE B a S) (okE B b S) = true from h) with ⟨x, y, pos, rfl, h1, h2⟩ | ⟨x, y, z, r, pos, rfl, h1, h2⟩
  · have hb := (ihb S k Z X g).1 _ h2
    exact main rfl ((iha S k Z X g).1 _ h1) (pe_one hb.1) (pw_or1 hb.2)
  · have hb := (ihb S k Z X g).1 _ h2
    exact main rfl ((iha S k Z X g).1 _ h1) hb.1 (pw_bool hb.2)
theorem snd_ite {t a b : Ex} (iht : SndE Γ B c t) (iha : SndE Γ B c a) (ihb : SndE Γ B c b) : SndE Γ B c (.ite t a b) := by
  intro S k Z X g
  refine ⟨fun e h => ?_, fun es h => (by cases h), fun _ _ h => (by cases h)⟩
  obtain ⟨ct, x, y, pos, rfl, h1, h2, h3⟩ := fIte_inv (show fIte e (okE B t S) (okE B a S) (okE B b S) = true from h)
  obtain ⟨t1, t2⟩ := (iht S k Z X g).1 _ h1
  obtain ⟨a1, a2⟩ := (iha S k Z X g).1 _ h2
  obtain ⟨b1, b2⟩ := (ihb S k Z X g).1 _ h3
  have e2 : ev c (.ite t a b) = fun ν => (do let x ← ev c t ν; let k ← asB x; if k then ev c a ν else ev c b ν) := by funext ν; simp [ev]
  refine ⟨PE.imp (pe_ifExp t2 a1 b1) fun σ H Q q => ?_, PT.imp (pt_ifExp t2 a2 b2) fun σ H Q q => ?_⟩
  · rw [e2] at q
    have q2 := tst (kk := fun k ν => if k then ev c a ν else ev c b ν) q
    obtain ⟨ν, η, ρ, G, S', T, q3⟩ := q2
    refine ⟨ν, η, ρ, G, S', T, q3.imp fun G' ρ' w H' q => ?_⟩
    obtain ⟨kk, rfl, q⟩ := q
    refine ⟨kk, rfl, ?_⟩
    cases kk <;> exact q
  · rw [e2] at q
    have q2 := tstT (kk := fun k ν => if k then ev c a ν else ev c b ν) q
    obtain ⟨ν, η, ρ, G, S', T, q3⟩ := q2
    refine ⟨ν, η, ρ, G, S', T, q3.imp fun G' ρ' w H' q => ?_⟩
    obtain ⟨kk, rfl, q⟩ := q
    refine ⟨kk, rfl, ?_⟩
    cases kk <;> exact q
theorem snd_call (hB2 : Γ.ft = B.ft) {md i : Nat} {es : Ex} (ih : SndE Γ B c es) : SndE Γ B c (.call md i es) := by
  intro S k Z X g
  refine ⟨fun e h => ?_, fun es h => (by cases h), fun _ _ h => (by cases h)⟩
  obtain ⟨y, yp, as, pos, rfl, h1, h2, h3⟩ := fCall_inv (show fCall B S i e (okL B es S) = true from h)
  rw [← hB2] at h1
  exact both rfl (call_ok g h1 h2 ((ih S k Z X g).2.1 _ h3))
theorem snd_chn {o p : Cop} {a b d : Ex} (iha : SndE Γ B c a) (ihb : SndE Γ B c b) (ihd : SndE Γ B c d) : SndE Γ B c (.chn o p a b d) := by
  intro S k Z X g
  refine ⟨fun e h => ?_, fun es h => (by cases h), fun _ _ h => (by cases h)⟩
  obtain ⟨l, op, oq, m, r, pos, rfl, h1, h2, h3, h4, h5, h6⟩ := fChn_inv (show fChn o p e (okE B a S) (okE B b S) (okE B d S) = true from h)
  have p1 := ((iha S k Z X g).1 _ h4).1
  have p2 := ((ihb S k Z X g).1 _ h5).1
  have p3 := ((ihd S k Z X g).1 _ h6).1
  have e2 : ev c (.chn o p a b d) = fun ν => (do
      let x ← ev c a ν
      let y ← ev c b ν
      let w ← prM (dprim c.sub (.cmp o)) [x, y]
      let k ← asB w
      if k then (do
        let z ← ev c d ν
        prM (dprim c.sub (.cmp p)) [y, z])
      else Pure.pure (W.d (.bl false))) := by funext ν; simp [ev, prM]
  have go : ∀ σ H Q, tI Γ Z (ev c (.chn o p a b d)) σ H Q → tChain (pr2 Γ fun x y => (dcmp o x y).map .bl) (pr2 Γ fun x y => (dcmp p x y).map .bl) (tI Γ Z (ev c a)) (tI Γ Z (ev c b)) (tI Γ Z (ev c d)) σ H Q := by
    intro σ H Q t
    rw [e2] at t
    obtain ⟨ν, η, ρ, G, S', T, t⟩ := t
    refine ⟨ν, η, ρ, G, S', T, Fin.bind t _ fun w1 ρ1 G1 η1 H1 S1 E1 t1 x rx => ?_⟩
    refine ⟨ν, η1, ρ1, G1, S1, T.mono E1.same E1.rho, Fin.bind t1 _ fun w2 ρ2 G2 η2 H2 S2 E2 t2 y ry => ?_⟩
    have T2 := (T.mono E1.same E1.rho).mono E2.same E2.rho
    rw [M.bind_ap] at t2
    cases e3 : prM (dprim c.sub (.cmp o)) [w1, w2] η2 with
    | bad => rw [e3] at t2; exact t2.elim
    | exc _ _ => exact (prM_noexc e3).elim
    | ok w3 η3 =>
      rw [e3] at t2
      obtain ⟨ds, z, q1, q2, rfl, eη⟩ := prM_val e3
      subst eη
      obtain ⟨d1, d2, rfl, r1, r2⟩ := rd_two q1
      have t2 : Fin Γ Z (pW Γ Q) σ ρ2 G2 η3 H2 ((do
          let k ← asB (W.d z)
          if k then (do
            let z ← ev c d ν
            prM (dprim c.sub (.cmp p)) [w2, z])
          else Pure.pure (W.d (.bl false)) : M W) η3) := t2
      obtain ⟨kk, ez, t3⟩ := asB_ok t2
      cases ez
      refine ⟨G2, d1, d2, _, S2.same, (rx.mono E2.same E2.rho).read S2 r1, ry.read S2 r2, q2, fun v H' hs r => ?_⟩
      cases r
      refine ⟨kk, rfl, ?_⟩
      have Sg := S2.grow hs
      have Eg := Ext.grow S2 hs
      cases kk with
      | false => exact t3 ρ2 _ H' Sg Eg _ (.bl false)
      | true =>
        have t4 := Fin.step Eg t3
        refine ⟨ν, η3, ρ2, _, Sg, T2.mono Eg.same Eg.rho, Fin.bind t4 _ fun w4 ρ4 G4 η4 H4 S4 E4 t5 u ru => ?_⟩
        obtain ⟨ds, z, e5, e6, t6⟩ := prM_ok t5
        obtain ⟨d3, d4, rfl, r3, r4⟩ := rd_two e5
        have E24 := Eg.trans E4
        exact ⟨G4, d3, d4, z, S4.same, (ry.mono E24.same E24.rho).read S4 r3, ru.read S4 r4, e6, fun v H'' hs r => t6 ρ4 (grow G4 H4 H'') H'' (S4.grow hs) (Ext.grow S4 hs) v r⟩
  have hm : lastMarks [op, oq] [m, r] = false := h3
  refine ⟨PE.imp (pe_chain (copRule g h1) (copRule g h2) p1 p2 p3 hm) go, PT.imp (pt_chain (copRule g h1) (copRule g h2) p1 p2 p3 hm) fun σ H Q t => go σ H _ (tT_B t)⟩
theorem snd_nlst {es : Ex} (ih : SndE Γ B c es) : SndE Γ B c (.nlst es) := by
  intro S k Z X g
  refine ⟨fun e h => ?_, fun es h => (by cases h), fun _ _ h => (by cases h)⟩
  obtain ⟨as, pos, rfl, hv⟩ := fLst_inv (show fLst e (okL B es S) = true from h)
  have al := (ih S k Z X g).2.1 _ hv
  have e2 : ev c (.nlst es) = fun ν => (do let ws ← evl c es ν; mkW ws) := by funext ν; simp [ev]
  refine both rfl (PE.imp (pe_lst al.pa) fun σ H Q t => ?_)
  rw [e2] at t
  obtain ⟨ν, η, ρ, G, S', T, t⟩ := t
  refine ⟨ν, η, ρ, G, S', T, Fin.bind t _ fun ws ρ1 G1 η1 H1 S1 E1 t1 vs rs => ?_⟩
  unfold mkW at t1
  split at t1
  · rename_i hz
    refine ⟨by rw [rs.length, hsz]; exact hz, fun p hp => ?_⟩
    obtain ⟨S2, E2⟩ := S1.lay hp rs
    exact t1 _ _ _ S2 E2 _ ⟨p, by unfold updR; rw [if_pos rfl], rfl⟩
  · exact t1.elim
theorem snd_frz {a : Ex} (ih : SndE Γ B c a) : SndE Γ B c (.frz a) := by
  intro S k Z X g
  refine ⟨fun e h => ?_, fun es h => (by cases h), fun _ _ h => (by cases h)⟩
  have h : (plainT e && okE B a S e) = true := h
  rw [Bool.and_eq_true] at h
  have e2 : ev c (.frz a) = fun ν => (do let w ← ev c a ν; frzW w) := by funext ν; simp [ev]
  refine both h.1 (PE.imp ((ih S k Z X g).1 _ h.2).1 fun σ H Q t => ?_)
  rw [e2] at t
  obtain ⟨ν, η, ρ, G, S', T, t⟩ := t
  refine ⟨ν, η, ρ, G, S', T, Fin.bind t _ fun w ρ1 G1 η1 H1 S1 E1 t1 v rv => ?_⟩
  rcases frzW_ok t1 with ⟨x, rfl, t2⟩ | ⟨n, ws, ds, rfl, e3, e4, t2⟩ | ⟨n, kvs, ps, rfl, e3, e4, t2⟩
  · exact t2 ρ1 G1 H1 S1 (Ext.refl _ _ _ _) v rv
  · obtain ⟨p, vs, rfl, hp, hl, hH, rs⟩ := own_lst S1 e3 rv
    obtain ⟨S2, E2, sg⟩ := S1.frz hl hp hH
    exact t2 ρ1 _ H1 S2 E2 _ (.lst (.inl upd_same) (RepL.mono sg (RepL.of_ws rs e4)))
  · obtain ⟨p, ks, rfl, hp, hl, hH, rk⟩ := own_dct S1 e3 rv
    obtain ⟨S2, E2, sg⟩ := S1.frz hl hp hH
    exact t2 ρ1 _ H1 S2 E2 _ (.dctK (.inl upd_same) (RepP.mono sg (RepP.of_ks rk e4)))
theorem snd_app {a x : Ex} (iha : SndE Γ B c a) (ihx : SndE Γ B c x) : SndE Γ B c (.app a x) := by
  intro S k Z X g
  refine ⟨fun e h => ?_, fun es h => (by cases h), fun _ _ h => (by cases h)⟩
  obtain ⟨o, apos, y, cpos, rfl, h2, h3, h4, h5, h6⟩ := fMt1_inv (show fMt1 "append" e (okE B a S) (okE B x S) = true from h)
  have p1 := ((iha S k Z X g).1 _ h5).1
  have p2 := ((ihx S k Z X g).1 _ h6).1
  have pa : PA X [y] (tCons (tI Γ Z (ev c x)) tNil) := pa_cons p2 pa_nil (star_of h4 _ _)
  have e2 : ev c (.app a x) = fun ν => (do let w ← ev c a ν; let _ ← chkL w; let x ← ev c x ν; appW w x) := by funext ν; simp [ev]
  refine both rfl (PE.imp (pe_bm PySem.F.plainAttrs_list PySem.F.slot_list_append PySem.F.type_list_append mt_append p1 pa (base_of h2 _ _) (few1 h4) h3 (star_of h4 _ _) rfl) fun σ H Q t => ?_)
  rw [e2] at t
  obtain ⟨ν, η, ρ, G, S', T, t⟩ := t
  refine ⟨ν, η, ρ, G, S', T, Fin.bind t _ fun w ρ1 G1 η1 H1 S1 E1 t1 v rv => ?_⟩
  obtain ⟨n, ws, rfl, e3, t2⟩ := chkL_ok t1
  obtain ⟨p, vs, rfl, hp, hl, hH, rs⟩ := own_lst S1 e3 rv
  refine ⟨.inl ⟨rfl, vs, .inl (.inl hH)⟩, ν, η1, ρ1, G1, S1, T.mono E1.same E1.rho, Fin.bind t2 _ fun w2 ρ2 G2 η2 H2 S2 E2 t3 u ru => ?_⟩
  simp only [appW] at t3
  split at t3
  · rename_i ws2 e4
    split at t3
    · rename_i hz
      obtain ⟨p2, vs2, e5, hp2, hl2, hH2, rs2⟩ := own_lst S2 e4 (v := .ref p) ⟨p, E2.rho _ _ hp, rfl⟩
      cases e5
      obtain ⟨S3, E3⟩ := S2.put hl2 hp2 (rs2.append (.cons ru .nil))
      exact ⟨p, vs2, u, rfl, rfl, hH2, by rw [rs2.length, hsz]; exact hz, t3 _ _ _ S3 E3 _ .non⟩
    · exact t3.elim
  · exact t3.elim
end
end Ip

set_option Elab.async false
set_option linter.all false
set_option maxRecDepth 100000
set_option maxHeartbeats 400000
/-! IpMk: an exception is made. -/
namespace Ip
open PySem PySem.Spec PyProof.Rows L2
section
variable {Γ : Env} {B : Tb} {c : Cfg} {S : SC} {k : Nat} {Z : WX} {X : Cx}
theorem exO_nt {cls : Value} {a : Addr} (ps : Array Value) : ExO cls a ≠ .tbl ps := fun z => by
  unfold ExO at z
  cases z
theorem mkX_ok {q : Nat} {w : W} {Rp : Hp → Rho → W → Hp → Prop} {σ : L2.St} {ρ : Rho} {G : Hp} {η : Hv} {H : Hp} (h : Fin Γ Z Rp σ ρ G η H (mkX c q [w] η)) :
    (c.xi q = none ∧ Fin Γ Z Rp σ ρ G η H (.ok (.d (.exc q [])) η)) ∨ ∃ f x, c.xi q = some f ∧ w = .d x ∧ Fin Γ Z Rp σ ρ G η H (.ok (.d (.exc q [(f, x)])) η) := by
  unfold mkX at h
  simp only at h
  cases e : c.xi q with
  | none => rw [e] at h; exact .inl ⟨rfl, h⟩
  | some f =>
    rw [e] at h
    cases w with
    | d x => exact .inr ⟨f, x, rfl, rfl, h⟩
    | ref n => exact Fin.badE h
    | clo l cs => exact Fin.badE h
/-- the end of a making of an exception with an attribute -/
theorem mkF_end {q : Nat} {f : String} {x : Str} {C : Addr} {ρ1 : Rho} {G1 H1 : Hp} {η1 : Hv} {y : D} {v : V} {σ : L2.St} {Q : VK} (hp : (q, f) ∈ Γ.xi) (hx : Γ.gs[q]? = some x) (hm : Γ.mg x = some (.ref C)) (S1 : Sim Γ ρ1 G1 η1 H1) (rv : Rep Γ G1 y v)
    (t : Fin Γ Z (pW Γ Q) σ ρ1 G1 η1 H1 (.ok (.d (.exc q [(f, y)])) η1)) {d a : Addr} (hd : H1 d = none) (ha : H1 a = none) (hda : d ≠ a) : Q (.ref a) (upd (upd H1 d (.xd [((f : Str), v)])) a (EX (.ref C) (some d) a)) := by
  have sm : Same H1 (upd (upd H1 d (.xd [((f : Str), v)])) a (EX (.ref C) (some d) a)) := fun b o e => by
    rw [upd_ne (ne_of_none e ha), upd_ne (ne_of_none e hd)]; exact e
  refine t ρ1 _ _ (S1.grow sm) (Ext.grow S1 sm) _ (Rep.excF hp hx hm (a := a) (d := d) ?_ ?_ (Rep.mono (grow_same S1.same) rv))
  · rw [grow_new ha, upd_same]
    exact flt_some (ex_ne_tbl)
  · rw [grow_new hd, upd_ne hda, upd_same]
    exact flt_some (fun _ z => by cases z)
theorem snd_mk (hB1 : Γ.gs = B.gs) (hB4 : Γ.pl = B.pl) (hB5 : Γ.xi = B.xi) {q : Nat} {es : Ex} (ih : SndE Γ B c es) : SndE Γ B c (.mk q es) := by
  intro S k Z X g
  refine ⟨fun e h => ?_, fun es h => (by cases h), fun _ _ h => (by cases h)⟩
  have h : (fMk B S q e (okL B es S) || fMx B S q e (okL B es S)) = true := h
  rw [Bool.or_eq_true] at h
  have e2 : ∀ (a : Ex) ν, ev c (.mk q (.cons a .nil)) ν = (do let x ← ev c a ν; mkX c q [x]) := fun a ν => by simp [ev, evl]
  rcases h with h | h
  · obtain ⟨x, y, p, pos, rfl, h1, h2, h3, h4, h5⟩ := fMk_inv h
    simp only [SC.glb, Bool.and_eq_true] at h3
    rw [← hB1] at h1
    rw [← hB4] at h2
    obtain ⟨a, rfl, pa⟩ := ((ih S k Z X g).2.1 _ h5).one
    obtain ⟨C, bmB, bs, n1, n2, f1, f2, f3, f4, f5, f6, f7⟩ := g.fns.fx.cls _ _ h2 h1
    refine both rfl (PE.imp (pe_exc1 f2 (by rw [g.K]; exact f3) (by rw [g.mg]; exact f1) (by rw [g.K]; exact f4) (g.gl h3.1) pa (star_of h4 _ _) (nodbg_ok h3.2).1) fun σ H Q t => ?_)
    obtain ⟨ν, η, ρ, G, Sm, T, t⟩ := t
    rw [e2] at t
    refine ⟨ν, η, ρ, G, Sm, T, Fin.bind t _ fun w ρ1 G1 η1 H1 S1 E1 t1 v rv ad hn => ?_⟩
    rcases mkX_ok t1 with ⟨hq, t1⟩ | ⟨f, z, hq, rfl, t1⟩
    · exact t1 ρ1 _ _ (S1.grow (same_upd hn)) (Ext.grow S1 (same_upd hn)) _ (Rep.exc h2 h1 f1 (.inr (grow_up hn exO_nt)))
    · rw [g.fns.fx.xip q h2] at hq; cases hq
  · obtain ⟨x, y, p, pos, f, rfl, h1, h2, h3, h4, h5⟩ := fMx_inv h
    simp only [SC.glb, Bool.and_eq_true] at h3
    rw [← hB1] at h1
    rw [← hB5] at h2
    obtain ⟨a, rfl, pa⟩ := ((ih S k Z X g).2.1 _ h5).one
    obtain ⟨C, fI, fd, f1, f2, f3, f4, f5, f6, f7⟩ := g.fns.fx.xcl _ _ _ h2 h1
    refine both rfl (PE.imp (pe_xi (k := k + 1) (by rw [g.K, g.P]; exact f2) (by rw [g.K]; exact f3) (by rw [g.K]; exact f4) (by rw [g.K]; exact f5) (g.blt (by decide +kernel)) (by rw [g.P]; exact g.fns.fx.top (fun z => by rw [z] at h2; cases h2)) g.room4 (g.gl h3.1) (by rw [g.mg]; exact f1) pa (star_of h4 _ _) (nodbg_ok h3.2).1) fun σ H Q t => ?_)
    obtain ⟨ν, η, ρ, G, Sm, T, t⟩ := t
    rw [e2] at t
    refine ⟨ν, η, ρ, G, Sm, T, Fin.bind t _ fun w ρ1 G1 η1 H1 S1 E1 t1 v rv d ad hd hn hda => ?_⟩
    rcases mkX_ok t1 with ⟨hq, t1⟩ | ⟨f', z, hq, rfl, t1⟩
    · rw [g.fns.fx.xif q f h2] at hq; cases hq
    · rw [g.fns.fx.xif q f h2] at hq
      cases hq
      exact mkF_end h2 h1 f1 S1 rv t1 hd hn hda
theorem snd_mkk (hB1 : Γ.gs = B.gs) (hB5 : Γ.xi = B.xi) {q : Nat} {a : Ex} (ih : SndE Γ B c a) : SndE Γ B c (.mkk q a) := by
  intro S k Z X g
  refine ⟨fun e h => ?_, fun es h => (by cases h), fun _ _ h => (by cases h)⟩
  obtain ⟨x, y, p, pos, f, kp, rfl, h1, h2, h3, h5⟩ := fMkk_inv (show fMkk B S q e (okE B a S) = true from h)
  simp only [SC.glb, Bool.and_eq_true] at h3
  rw [← hB1] at h1
  rw [← hB5] at h2
  obtain ⟨C, fI, fd, f1, f2, f3, f4, f5, f6, f7⟩ := g.fns.fx.xcl _ _ _ h2 h1
  refine both rfl (PE.imp (pe_xik (k := k + 1) (by rw [g.K, g.P]; exact f2) (by rw [g.K]; exact f3) (by rw [g.K]; exact f4) (by rw [g.K]; exact f5) (g.blt (by decide +kernel)) (by rw [g.P]; exact g.fns.fx.top (fun z => by rw [z] at h2; cases h2)) g.room4 (g.gl h3.1) (by rw [g.mg]; exact f1) ((ih S k Z X g).1 _ h5).1 (nodbg_ok h3.2).1) fun σ H Q t => ?_)
  obtain ⟨ν, η, ρ, G, Sm, T, t⟩ := t
  have e2 : ev c (.mkk q a) ν = (do let x ← ev c a ν; mkX c q [x]) := by simp [ev]
  rw [e2] at t
  refine ⟨ν, η, ρ, G, Sm, T, Fin.bind t _ fun w ρ1 G1 η1 H1 S1 E1 t1 v rv d ad hd hn hda => ?_⟩
  rcases mkX_ok t1 with ⟨hq, t1⟩ | ⟨f', z, hq, rfl, t1⟩
  · rw [g.fns.fx.xif q f h2] at hq; cases hq
  · rw [g.fns.fx.xif q f h2] at hq
    cases hq
    exact mkF_end h2 h1 f1 S1 rv t1 hd hn hda
end
end Ip

set_option Elab.async false
set_option linter.all false
set_option maxRecDepth 100000
set_option maxHeartbeats 400000
/-! IpIt: what is walked. -/
namespace Ip
open PySem PySem.Spec PyProof.Rows L2

/-- a walk that gives the items its while C stands -/
structure Wlk (Γ : Env) (C : Hp → Rho → Hp → Prop) (its : List W) (J : It) : Prop where
  goes : ∀ i G ρ H, i < its.length → Same G H → C G ρ H → J.go i H
  stops : ∀ G ρ H, Same G H → C G ρ H → J.stop its.length H
  yields : ∀ i G ρ H x H', i < its.length → Same G H → C G ρ H → J.yld i H x H' → ∃ w, its[i]? = some w ∧ Same H H' ∧ RepW Γ (grow G H H') ρ w x
/-- the arguments read as they did -/
def CS (Γ : Env) (vs : List V) : Snap → Hp → Rho → Hp → Prop
  | .ds ds => fun G _ H => RepAs Γ G H ds vs
  | .ws ws => fun G ρ H => ∃ a us, vs = [.ref a] ∧ H a = some (.lst us) ∧ RepWs Γ G ρ ws us
section
variable {Γ : Env} {c : Cfg} {S : SC} {k : Nat} {Z : WX} {X : Cx} {ρ : Rho} {G H : Hp} {η : Hv}
theorem snap_ok {ik : Ik} {ws : List W} {vs : List V} {sn : Snap} (Sm : Sim Γ ρ G η H) (r : RepWs Γ G ρ ws vs) (e : snap ik ws η = some sn) : CS Γ vs sn G ρ H := by
  have data : (rdWs η ws).map Snap.ds = some sn → CS Γ vs sn G ρ H := fun e => by
    cases q : rdWs η ws with
    | none => rw [q] at e; cases e
    | some ds => rw [q] at e; cases e; exact RepWs.read Sm r q
  by_cases hk : ik = .raw
  · subst hk
    unfold snap at e
    simp only at e
    split at e
    · rename_i n
      cases q : η[n]? with
      | none => rw [q] at e; cases e
      | some o =>
        rw [q] at e
        cases o with
        | lst us =>
          cases e
          cases r with
          | cons r1 r2 =>
            cases r2
            obtain ⟨p, xs, rfl, hp, hl, hH, rs⟩ := own_lst Sm q r1
            exact ⟨p, xs, rfl, hH, rs⟩
        | dead => cases e
        | dct _ => cases e
        | cel _ => cases e
    · cases e
  · refine data ?_
    cases ik <;> first | exact absurd rfl hk | exact e
/-- an iterable's reading -/
def itM (ik : Ik) (fs : List (Option W) → M (List W)) (ν : List (Option W)) : M (List W × Snap × List W) := do
  let ws ← fs ν
  let sn ← snapM ik ws
  let its ← ofO (itS ik sn)
  Pure.pure (ws, sn, its)
def tIt (Γ : Env) (Z : WX) (ik : Ik) (fs : List (Option W) → M (List W)) : TI := fun σ H R => ∃ ν η ρ G, Sim Γ ρ G η H ∧ Slots Γ G ρ ν σ ∧
  Fin Γ Z (fun G1 ρ1 q H1 => ∀ vs, RepWs Γ G1 ρ1 q.1 vs → CS Γ vs q.2.1 G1 ρ1 H1 → ∀ J, Wlk Γ (CS Γ vs q.2.1) q.2.2 J → R J H1) σ ρ G η H (itM ik fs ν η)
/-- behind the arguments -/
theorem itM_ok {ik : Ik} {fs : List (Option W) → M (List W)} {ν : List (Option W)} {σ : L2.St} {R : List W × Snap × List W → Hp → Rho → Hp → Prop} (h : Fin Γ Z (fun G1 ρ1 q H1 => R q G1 ρ1 H1) σ ρ G η H (itM ik fs ν η)) :
    Fin Γ Z (fun G1 ρ1 ws H1 => ∃ η1 sn its, Sim Γ ρ1 G1 η1 H1 ∧ snap ik ws η1 = some sn ∧ itS ik sn = some its ∧ R (ws, sn, its) G1 ρ1 H1) σ ρ G η H (fs ν η) := by
  unfold itM at h
  refine Fin.bind h _ fun ws ρ1 G1 η1 H1 S1 E1 h1 => ?_
  rw [M.bind_ap] at h1
  cases e : snap ik ws η1 with
  | none =>
    have e' : snapM ik ws η1 = .bad := by unfold snapM; rw [e]
    rw [e'] at h1
    exact Fin.badE h1
  | some sn =>
    have e' : snapM ik ws η1 = .ok sn η1 := by unfold snapM; rw [e]
    rw [e'] at h1
    simp only at h1
    rw [M.bind_ap] at h1
    cases e2 : itS ik sn with
    | none => rw [e2] at h1; exact Fin.badE h1
    | some its =>
      rw [e2] at h1
      exact ⟨η1, sn, its, S1, e, e2, h1 ρ1 G1 H1 S1 (Ext.refl _ _ _ _)⟩

/-! ### the walks -/
theorem wlk_lst {K : PySem.W.Frag} {a : Addr} {xs : List D} (hK : K = Γ.K) : Wlk Γ (CS Γ [.ref a] (.ds [.lst xs])) (xs.map W.d) (Itl K a) := by
  have get : ∀ {G H : Hp}, Same G H → RepAs Γ G H [.lst xs] [.ref a] → ∃ vs, SqL K H a vs ∧ RepL Γ G xs vs := fun {G H} hs r => by
    obtain ⟨v, e, r1⟩ := r.one
    cases e
    obtain ⟨b, vs, e2, h1, h2⟩ := r1.isLst hs
    cases e2
    exact ⟨vs, .inl h1, h2⟩
  refine ⟨fun i G ρ H hi hs r => ?_, fun G ρ H hs r => ?_, fun i G ρ H x H' hi hs r y => ?_⟩
  · obtain ⟨vs, h1, h2⟩ := get hs r
    have hl := h2.length
    rw [List.length_map] at hi
    exact ⟨vs, vs[i]'(by omega), h1, by simp [show i < vs.length by omega]⟩
  · obtain ⟨vs, h1, h2⟩ := get hs r
    exact ⟨vs, h1, by rw [List.length_map, h2.length]; exact Nat.le_refl _⟩
  · obtain ⟨vs, h1, h2⟩ := get hs r
    obtain ⟨rfl, y2⟩ := y
    have y3 := y2 vs h1
    rw [List.length_map] at hi
    obtain ⟨v, h3, h4⟩ := h2.get (i := i) (x := xs[i]) (by simp [hi])
    rw [y3] at h3
    cases h3
    refine ⟨.d xs[i], by simp [hi], Same.refl _, ?_⟩
    exact RepW.mono (grow_same hs) (fun _ _ q => q) h4
theorem wlk_tup {K : PySem.W.Frag} {a : Addr} {xs : List D} (hK : K = Γ.K) : Wlk Γ (CS Γ [.ref a] (.ds [.tup xs])) (xs.map W.d) (Itt K a) := by
  have get : ∀ {G H : Hp}, Same G H → RepAs Γ G H [.tup xs] [.ref a] → ∃ vs, SqT K H a vs ∧ RepL Γ G xs vs := fun {G H} hs r => by
    obtain ⟨v, e, r1⟩ := r.one
    cases e
    obtain ⟨b, vs, e2, h1, h2⟩ := r1.tup
    cases e2
    exact ⟨vs, by rw [hK]; exact Same.sqT hs h1, h2⟩
  refine ⟨fun i G ρ H hi hs r => ?_, fun G ρ H hs r => ?_, fun i G ρ H x H' hi hs r y => ?_⟩
  · obtain ⟨vs, h1, h2⟩ := get hs r
    have hl := h2.length
    rw [List.length_map] at hi
    exact ⟨vs, vs[i]'(by omega), h1, by simp [show i < vs.length by omega]⟩
  · obtain ⟨vs, h1, h2⟩ := get hs r
    exact ⟨vs, h1, by rw [List.length_map, h2.length]; exact Nat.le_refl _⟩
  · obtain ⟨vs, h1, h2⟩ := get hs r
    obtain ⟨rfl, y2⟩ := y
    have y3 := y2 vs h1
    rw [List.length_map] at hi
    obtain ⟨v, h3, h4⟩ := h2.get (i := i) (x := xs[i]) (by simp [hi])
    rw [y3] at h3
    cases h3
    refine ⟨.d xs[i], by simp [hi], Same.refl _, ?_⟩
    exact RepW.mono (grow_same hs) (fun _ _ q => q) h4
theorem RepWs.get {G : Hp} {ρ : Rho} : ∀ {xs : List W} {vs : List V} {i : Nat} {x : W}, RepWs Γ G ρ xs vs → xs[i]? = some x → ∃ v, vs[i]? = some v ∧ RepW Γ G ρ x v
  | _, _, _, _, .nil, e => by simp at e
  | _, _, 0, _, .cons h _, e => by simp at e; subst e; exact ⟨_, rfl, h⟩
  | _, _, i + 1, _, .cons _ r, e => by
    obtain ⟨v, h1, h2⟩ := RepWs.get (i := i) r (by simpa using e)
    exact ⟨v, by simpa using h1, h2⟩
theorem wlk_raw {K : PySem.W.Frag} {a : Addr} {ws : List W} : Wlk Γ (CS Γ [.ref a] (.ws ws)) ws (Itl K a) := by
  have get : ∀ {G H : Hp} {ρ : Rho}, CS Γ [.ref a] (.ws ws) G ρ H → ∃ vs, SqL K H a vs ∧ RepWs Γ G ρ ws vs := fun {G H ρ} ⟨b, us, e, h1, h2⟩ => by
    cases e
    exact ⟨us, .of h1, h2⟩
  refine ⟨fun i G ρ H hi hs r => ?_, fun G ρ H hs r => ?_, fun i G ρ H x H' hi hs r y => ?_⟩
  · obtain ⟨vs, h1, h2⟩ := get r
    have hl := h2.length
    exact ⟨vs, vs[i]'(by omega), h1, by simp [show i < vs.length by omega]⟩
  · obtain ⟨vs, h1, h2⟩ := get r
    exact ⟨vs, h1, by rw [h2.length]; exact Nat.le_refl _⟩
  · obtain ⟨vs, h1, h2⟩ := get r
    obtain ⟨rfl, y2⟩ := y
    have y3 := y2 vs h1
    obtain ⟨v, h3, h4⟩ := RepWs.get (i := i) (x := ws[i]) h2 (by simp [hi])
    rw [y3] at h3
    cases h3
    refine ⟨ws[i], by simp [hi], Same.refl _, ?_⟩
    exact RepW.mono (grow_same hs) (fun _ _ q => q) h4
theorem wlk_rng {C : Hp → Rho → Hp → Prop} {lo hi : Int} : Wlk Γ C ((rngD lo hi).map W.d) (Itr lo (hi - lo).toNat) := by
  have hl : ((rngD lo hi).map W.d).length = (hi - lo).toNat := by simp [rngD]
  refine ⟨fun i G ρ H h _ _ => by rw [hl] at h; exact h, fun G ρ H _ _ => by rw [hl]; exact Nat.le_refl _, fun i G ρ H x H' h hs _ y => ?_⟩
  obtain ⟨rfl, rfl⟩ := y
  rw [hl] at h
  refine ⟨.d (.int (lo + (i : Int))), by simp [rngD, h], Same.refl _, .int _⟩

/-! ### iterables -/
theorem itl_pi {pins : List (Addr × Obj)} {σ : L2.St} {s1 : Shared} {tg : Expr} {R : It → Hp → Prop} {H1 : Hp} {a : Addr} {xs : List V} {E : Value → Shared → Prop} (I1 : Inv X pins σ H1 s1) (hq : SqL X.K H1 a xs) (q : R (Itl X.K a) H1) :
    wpAny (model X.prog X.w) X.A (pyIter (.ref a)) (PIE X pins σ tg R) E s1 := by
  obtain ⟨its, rv, p, hz⟩ := I1.list hq
  refine wpAny_pyIter_list p.isList ?_
  refine ⟨s1.heap.objs.size, [s1.heap.objs.size], _, _, H1, rfl, I1.kept (t' := s1.toks) fun b o e => Heap.get?_push_of_some _ e, turn_list a _, ⟨_, Heap.get?_push_size _ rfl, rfl, rfl⟩, fun b hb => ?_, q⟩
  have e : b = s1.heap.objs.size := by simpa using hb
  subst e
  exact I1.fpOk (Nat.le_refl _) (I1.hok.fresh (Nat.le_refl _))
theorem itt_pi {pins : List (Addr × Obj)} {σ : L2.St} {s1 : Shared} {tg : Expr} {R : It → Hp → Prop} {H1 : Hp} {a : Addr} {xs : List V} {E : Value → Shared → Prop} (I1 : Inv X pins σ H1 s1) (hq : SqT X.K H1 a xs) (q : R (Itt X.K a) H1) :
    wpAny (model X.prog X.w) X.A (pyIter (.ref a)) (PIE X pins σ tg R) E s1 := by
  obtain ⟨its, rv, p, hz⟩ := I1.tuple hq
  refine wpAny_pyIter_tuple (show s1.heap.IsTuple a its.toArray from p) ?_
  refine ⟨s1.heap.objs.size, [s1.heap.objs.size], _, _, H1, rfl, I1.kept (t' := s1.toks) fun b o e => Heap.get?_push_of_some _ e, turn_tuple a _, ⟨_, Heap.get?_push_size _ rfl, rfl, rfl⟩, fun b hb => ?_, q⟩
  have e : b = s1.heap.objs.size := by simpa using hb
  subst e
  exact I1.fpOk (Nat.le_refl _) (I1.hok.fresh (Nat.le_refl _))
theorem PI.imp {tg e : Expr} {t t' : TI} (h : PI X tg e t) (kk : ∀ σ H R, t' σ H R → t σ H R) : PI X tg e t' := ⟨fun pins s σ H R I q => h.run pins s σ H R I (kk σ H R q)⟩
theorem evl_one {a : Ex} : evl c (.cons a .nil) = fun ν => (do let x ← ev c a ν; Pure.pure [x]) := by funext ν; simp [evl]
theorem pi_plain {tg e : Expr} {a : Ex} (g : Gd Γ c S k Z X) (h : PE X e (tI Γ Z (ev c a))) : PI X tg e (tIt Γ Z .plain (evl c (.cons a .nil))) := by
  refine ⟨fun pins s σ H R I t => ?_⟩
  obtain ⟨ν, η, ρ, G, S', T, t⟩ := t
  have t2 := itM_ok t
  rw [evl_one] at t2
  have t3 : tI Γ Z (ev c a) σ H fun x H1 => ∃ p, x = .ref p ∧ ((∃ xs, SqL X.K H1 p xs ∧ R (Itl X.K p) H1) ∨ (∃ xs, SqT X.K H1 p xs ∧ R (Itt X.K p) H1)) := by
    refine ⟨ν, η, ρ, G, S', T, Fin.bind t2 _ fun w ρ1 G1 η1 H1 S1 E1 t4 v rv => ?_⟩
    obtain ⟨η2, sn, its, S2, e1, e2, q⟩ := t4 ρ1 G1 H1 S1 (Ext.refl _ _ _ _)
    have r1 : RepWs Γ G1 ρ1 [w] [v] := .cons rv .nil
    have cs := snap_ok S2 r1 e1
    have e1' : (rdWs η2 [w]).map Snap.ds = some sn := e1
    cases e3 : rdWs η2 [w] with
    | none => rw [e3] at e1'; cases e1'
    | some ds =>
      rw [e3] at e1'
      cases e1'
      obtain ⟨d, rfl, r2⟩ := rd_one e3
      have ra := rv.read S2 r2
      simp only [itS] at e2
      cases d <;> first | (simp [itD] at e2; done) | skip
      · rename_i xs
        cases e2
        obtain ⟨p, vs, rfl, h1, h2⟩ := ra.tup
        exact ⟨p, rfl, .inr ⟨vs, by rw [g.K]; exact Same.sqT S1.same h1, q [.ref p] r1 cs _ (wlk_tup g.K)⟩⟩
      · rename_i xs
        cases e2
        obtain ⟨p, vs, rfl, h1, h2⟩ := ra.isLst S1.same
        exact ⟨p, rfl, .inl ⟨vs, .inl h1, q [.ref p] r1 cs _ (wlk_lst g.K)⟩⟩
  refine thn (h.run pins s σ H _ I t3) fun v s1 ⟨x, H1, I1, r1, q1⟩ => ?_
  obtain ⟨p, rfl, q1⟩ := q1
  cases r1
  rcases q1 with ⟨xs, h1, h2⟩ | ⟨xs, h1, h2⟩
  · exact itl_pi I1 h1 h2
  · exact itt_pi I1 h1 h2
theorem pi_raw {tg e : Expr} {a : Ex} (g : Gd Γ c S k Z X) (h : PE X e (tI Γ Z (ev c a))) : PI X tg e (tIt Γ Z .raw (evl c (.cons a .nil))) := by
  refine ⟨fun pins s σ H R I t => ?_⟩
  obtain ⟨ν, η, ρ, G, S', T, t⟩ := t
  have t2 := itM_ok t
  rw [evl_one] at t2
  have t3 : tI Γ Z (ev c a) σ H fun x H1 => ∃ p xs, x = .ref p ∧ SqL X.K H1 p xs ∧ R (Itl X.K p) H1 := by
    refine ⟨ν, η, ρ, G, S', T, Fin.bind t2 _ fun w ρ1 G1 η1 H1 S1 E1 t4 v rv => ?_⟩
    obtain ⟨η2, sn, its, S2, e1, e2, q⟩ := t4 ρ1 G1 H1 S1 (Ext.refl _ _ _ _)
    have r1 : RepWs Γ G1 ρ1 [w] [v] := .cons rv .nil
    have cs := snap_ok S2 r1 e1
    cases sn with
    | ds ds =>
      exfalso
      unfold snap at e1
      simp only at e1
      split at e1
      · split at e1 <;> cases e1
      · cases e1
    | ws us =>
      cases e2
      obtain ⟨p, xs, e3, hp, rs⟩ := id cs
      cases e3
      exact ⟨p, xs, rfl, .of hp, q [.ref p] r1 cs _ wlk_raw⟩
  refine thn (h.run pins s σ H _ I t3) fun v s1 ⟨x, H1, I1, r1, q1⟩ => ?_
  obtain ⟨p, xs, rfl, h1, h2⟩ := q1
  cases r1
  exact itl_pi I1 h1 h2
theorem small_ok {i : Int} (h : small62 i = true) : -(2 ^ 62) ≤ i ∧ i < 2 ^ 62 := by
  simpa [small62] using h
theorem pi_rng {tg : Expr} {as : List Expr} {x : Ex} {p pos : Pos} (g : Gd Γ c S k Z X) (hg : S.gl "range" = true) (h : AllE Γ c Z X x as) (hl : as.length = 1 ∨ as.length = 2) : PI X tg (.Call (.Name "range" p) as [] pos) (tIt Γ Z .range (evl c x)) := by
  have core : ∀ σ H R, tIt Γ Z .range (evl c x) σ H R → tA Γ Z (evl c x) σ H fun vs H1 => (∃ j, vs = [.int j] ∧ -(2 ^ 62) ≤ j ∧ j < 2 ^ 62 ∧ R (Itr 0 j.toNat) H1) ∨ (∃ i j, vs = [.int i, .int j] ∧ (-(2 ^ 62) ≤ i ∧ i < 2 ^ 62 ∧ -(2 ^ 62) ≤ j ∧ j < 2 ^ 62) ∧ R (Itr i (j - i).toNat) H1) := by
    intro σ H R t
    obtain ⟨ν, η, ρ, G, S', T, t⟩ := t
    refine ⟨ν, η, ρ, G, S', T, (itM_ok t).imp fun G1 ρ1 ws H1 q vs rs => ?_⟩
    obtain ⟨η2, sn, its, S2, e1, e2, q⟩ := q
    have cs := snap_ok S2 rs e1
    have e1' : (rdWs η2 ws).map Snap.ds = some sn := e1
    cases e3 : rdWs η2 ws with
    | none => rw [e3] at e1'; cases e1'
    | some ds =>
      rw [e3] at e1'
      cases e1'
      have ra := RepWs.read S2 rs e3
      simp only [itS] at e2
      rcases ds with _ | ⟨d, _ | ⟨d2, _ | ⟨d3, ds⟩⟩⟩
      · simp [itD] at e2
      · cases d <;> first | (simp [itD] at e2; done) | skip
        rename_i j
        simp only [itD] at e2
        split at e2
        · rename_i hj
          cases e2
          obtain ⟨v, rfl, r1⟩ := ra.one
          rw [r1.int] at rs cs ⊢
          obtain ⟨b1, b2⟩ := small_ok hj
          refine .inl ⟨j, rfl, b1, b2, ?_⟩
          have := q _ rs cs (Itr 0 (j - 0).toNat) wlk_rng
          rwa [Int.sub_zero] at this
        · cases e2
      · cases d <;> cases d2 <;> first | (simp [itD] at e2; done) | skip
        rename_i i j
        simp only [itD] at e2
        split at e2
        · rename_i hj
          cases e2
          rw [Bool.and_eq_true] at hj
          obtain ⟨v, u, rfl, r1, r2⟩ := ra.two
          rw [r1.int, r2.int] at rs cs ⊢
          obtain ⟨b1, b2⟩ := small_ok hj.1
          obtain ⟨b3, b4⟩ := small_ok hj.2
          exact .inr ⟨i, j, rfl, ⟨b1, b2, b3, b4⟩, q _ rs cs _ wlk_rng⟩
        · cases e2
      · simp [itD] at e2
  have st := h.stars
  have hpa := AllE.pa h
  rcases as with _ | ⟨a, _ | ⟨b, _ | ⟨d, as⟩⟩⟩
  · simp at hl
  · simp only [List.all_cons, Bool.and_eq_true] at st
    refine PI.imp (pi_range1 (g.gl hg) (g.blt (by decide +kernel)) hpa (star_of st.1 _ _)) fun σ H R t => ?_
    obtain ⟨ν, η, ρ, G, S', T, t⟩ := core σ H R t
    refine ⟨ν, η, ρ, G, S', T, Fin.imp' t fun w η1 e G1 ρ1 H1 q vs rs => ?_⟩
    rcases q vs rs with q | ⟨i, j, e2, _⟩
    · exact q
    · exfalso
      have := rs.length
      rw [h.len _ _ _ _ e, e2] at this
      simp at this
  · simp only [List.all_cons, Bool.and_eq_true] at st
    refine PI.imp (pi_range2 (g.gl hg) (g.blt (by decide +kernel)) hpa (by rw [star_of st.1, star_of st.2.1]; rfl) (by rw [star_of st.2.1]; rfl)) fun σ H R t => ?_
    obtain ⟨ν, η, ρ, G, S', T, t⟩ := core σ H R t
    refine ⟨ν, η, ρ, G, S', T, Fin.imp' t fun w η1 e G1 ρ1 H1 q vs rs => ?_⟩
    rcases q vs rs with ⟨j, e2, _⟩ | q
    · exfalso
      have := rs.length
      rw [h.len _ _ _ _ e, e2] at this
      simp at this
    · exact q
  · simp at hl
end
end Ip

set_option Elab.async false
set_option linter.all false
set_option maxRecDepth 100000
set_option maxHeartbeats 400000
/-! IpCk: a def called by names. -/
namespace Ip
open PySem PySem.Spec PyProof.Rows L2
section
variable {Γ : Env} {B : Tb} {c : Cfg} {S : SC} {k : Nat} {Z : WX} {X : Cx}
theorem kw_all {env : PySem.Env} {pos : Pos} : ∀ {kws : List Keyword} {ks : List Str}, kwNm kws = some ks → (backToKw pos (keywordEach kws env)).all (·.1.isSome) = true ∧ (backToKw pos (keywordEach kws env)).filterMap (·.1) = ks ∧ (backToKw pos (keywordEach kws env)).any (·.1.isNone) = false
  | [], ks, h => by
    cases h
    exact ⟨rfl, rfl, rfl⟩
  | ⟨none, v, p⟩ :: r, ks, h => by cases h
  | ⟨some n, v, p⟩ :: r, ks, h => by
    unfold kwNm at h
    cases e : kwNm r with
    | none => rw [e] at h; cases h
    | some ks' =>
      rw [e] at h
      cases h
      obtain ⟨h1, h2, h3⟩ := kw_all (env := env) (pos := pos) e
      unfold backToKw at h1 h2 h3 ⊢
      unfold keywordEach
      simp only [List.map_cons, List.all_cons, List.any_cons, List.filterMap_cons, Option.isSome_some, Option.isNone_some, Bool.true_and, Bool.false_or]
      exact ⟨h1, by rw [h2], h3⟩
theorem AllE.pk : ∀ {xs : Ex} {kws : List Keyword}, AllE Γ c Z X xs (kws.map (·.value)) → PK X kws (tA Γ Z (evl c xs))
  | .nil, [], _ => ⟨fun pos pins s σ H Q I h => pk_nil.run pos pins s σ H Q I (tA_nil (by simpa only [evl] using h))⟩
  | .cons a r, ⟨nm, v, p⟩ :: kws, h => by
    obtain ⟨h1, h2, h3⟩ := h
    refine ⟨fun pos pins s σ H Q I t => (pk_cons (nm := nm) (kpos := p) h2 (AllE.pk h3)).run pos pins s σ H Q I (tA_cons (by simpa only [evl] using t))⟩
theorem perm_rep {G : Hp} {ρ : Rho} {ws : List W} {vs : List V} (r : RepWs Γ G ρ ws vs) : ∀ {pm : List Nat} {us : List W}, permW pm ws = some us → ∃ vs', permL pm vs = some vs' ∧ RepWs Γ G ρ us vs'
  | [], us, h => by
    cases h
    exact ⟨[], rfl, .nil⟩
  | i :: pm, us, h => by
    unfold permW at h
    cases e : ws[i]? with
    | none => rw [e] at h; cases h
    | some w =>
      rw [e] at h
      simp only at h
      cases e2 : permW pm ws with
      | none => rw [e2] at h; cases h
      | some us' =>
        rw [e2] at h
        cases h
        obtain ⟨v, h1, h2⟩ := RepWs.get r e
        obtain ⟨vs', h3, h4⟩ := perm_rep r e2
        refine ⟨v :: vs', ?_, .cons h2 h4⟩
        unfold permL
        rw [h1]
        simp only [h3]
        rfl
theorem perm_vals {vs : List V} {us : List Value} (r : Vals vs us) : ∀ {pm : List Nat} {vs' : List V}, permL pm vs = some vs' → ∃ us', permL pm us = some us' ∧ Vals vs' us'
  | [], vs', h => by
    cases h
    exact ⟨[], rfl, .nil⟩
  | i :: pm, vs', h => by
    unfold permL at h
    cases e : vs[i]? with
    | none => rw [e] at h; cases h
    | some w =>
      rw [e] at h
      simp only at h
      cases e2 : permL pm vs with
      | none => rw [e2] at h; cases h
      | some vs2 =>
        rw [e2] at h
        cases h
        obtain ⟨u, h1, h2⟩ := r.get e
        obtain ⟨us', h3, h4⟩ := perm_vals r e2
        refine ⟨u :: us', ?_, .cons h2 h4⟩
        unfold permL
        rw [h1]
        simp only [h3]
        rfl
theorem permW_len {ws : List W} : ∀ {pm : List Nat} {us : List W}, permW pm ws = some us → us.length = pm.length
  | [], us, h => by cases h; rfl
  | i :: pm, us, h => by
    unfold permW at h
    cases e : ws[i]? with
    | none => rw [e] at h; cases h
    | some w =>
      rw [e] at h
      simp only at h
      cases e2 : permW pm ws with
      | none => rw [e2] at h; cases h
      | some us' =>
        rw [e2] at h
        cases h
        simp [permW_len e2]
theorem snd_callk (hB1 : Γ.ft = B.ft) (hB6 : Γ.kw = B.kw) {md f n : Nat} {pm : List Nat} {es : Ex} (ih : SndE Γ B c es) : SndE Γ B c (.callk md f n pm es) := by
  intro S k Z X g
  refine ⟨fun e h => ?_, fun es h => (by cases h), fun _ _ h => (by cases h)⟩
  obtain ⟨x, p, kws, pos, ks, rfl, h1, h2, h3, h3b, h4, h5, h6⟩ := fCallk_inv (show fCallk B S f n pm e (okL B es S) = true from h)
  rw [← hB1] at h1
  rw [← hB6] at h4
  have A := (ih S k Z X g).2.1 _ h6
  obtain ⟨fa, fd, ps, hl, hm, hk, hb, hkw, hF⟩ := g.fns.run f x _ h1
  simp only [SC.glb, Bool.and_eq_true] at h5
  have F := hF md
  rw [← g.P, ← g.w, ← g.K, ← g.mg, ← g.base] at F
  rw [← g.mg] at hm
  rw [← g.K] at hk hkw
  obtain ⟨k1, k2, k3⟩ := kw_all (env := X.env) (pos := pos) h2
  refine both rfl ⟨fun pins s σ H Q I t => ?_⟩
  have e2 : ev c (.callk md f n pm es) = fun ν => (do let ws ← evl c es ν; let us ← ofO (permW pm ws); c.call md f us) := by funext ν; simp [ev]
  rw [e2] at t
  obtain ⟨ν, η, ρ, G, S', T, t⟩ := t
  refine wpAny_Call_Name_kw (ld_glob I (g.gl h5.1) hm ?_ (nodbg_ok h5.2).1)
  refine PySem.W.callWith_KW0 (h₀ := X.base) I.ok.mod.kin hk k1 (thn ((AllE.pk A).run pos pins s σ H (fun vs H1 => ∃ vs', permL pm vs = some vs' ∧ vs.length = n ∧ spF Γ n (c.call md f) vs' H1 Q (WE Z σ)) I ?_) fun us s1 ⟨vs, H1, I1, r, vs', hp, hn, q⟩ => ⟨I1.kIn, ?_⟩) (by rw [k3]; rfl)
  · refine ⟨ν, η, ρ, G, S', T, Fin.bindE t _ fun ws ρ1 G1 η1 H1 ee S1 E1 h1 vs rs => ?_⟩
    cases e : permW pm ws with
    | none => rw [M.bind_ap, e] at h1; exact h1.elim
    | some us =>
      rw [M.bind_ap, e] at h1
      obtain ⟨vs', hp, rs'⟩ := perm_rep rs e
      refine ⟨vs', hp, by rw [rs.length, A.len _ _ _ _ ee, List.length_map, h3], by rw [rs'.length, permW_len e, h3b], us, η1, ρ1, G1, S1, rs', ?_⟩
      have h1 : Fin Γ Z (pW Γ Q) σ ρ1 G1 η1 H1 (c.call md f us η1) := h1
      cases e : c.call md f us η1 with
      | ok w η' => rw [e] at h1; exact h1
      | exc d η' => rw [e] at h1; exact h1
      | bad => rw [e] at h1; exact h1
  · rw [k2]
    obtain ⟨us', hpu, rv⟩ := perm_vals r hp
    have b := hkw ks pm h4 s1 us us' I1.kIn (by rw [← r.length]; exact hn) hpu
    refine wpAny_call (codeAny_mono (run_fnA (E := WE Z) F g.room g.gd b (passAt g.tk σ) I1 rv q) fun r s' hq => ?_)
    rcases r with e | (u | _ | _ | _) <;> exact hq
end
end Ip

set_option Elab.async false
set_option linter.all false
set_option maxRecDepth 100000
set_option maxHeartbeats 400000
/-! IpComp: targets, list comprehensions. -/
namespace Ip
open PySem PySem.Spec PyProof.Rows L2

section
variable {Γ : Env} {c : Cfg} {S : SC} {k : Nat} {Z : WX} {X : Cx}
/-- a target's reading -/
def gB (Γ : Env) (pt : Pt) : TG := fun v σ H Q => ∃ ν ρ G w ν', Slots Γ G ρ ν σ ∧ Same G H ∧ RepW Γ G ρ w v ∧ bindP pt w ν = some ν' ∧ ∀ σ', σ'.length = σ.length → (∀ i, i ∉ pt.vars → σ'[i]? = σ[i]?) → Slots Γ G ρ ν' σ' → Q σ' H
theorem Slots.set {G : Hp} {ρ : Rho} {ν : List (Option W)} {σ : L2.St} (T : Slots Γ G ρ ν σ) {i : Nat} {w : W} {v : V} (r : RepW Γ G ρ w v) : Slots Γ G ρ (ν.set i (some w)) (σ.set i (some v)) := by
  refine ⟨by simp [T.1], fun j u hj => ?_⟩
  by_cases e : i = j
  · subst e
    have hlt : i < ν.length := by
      obtain ⟨h, _⟩ := List.getElem?_eq_some_iff.mp hj
      simpa using h
    rw [List.getElem?_set_self hlt] at hj
    cases hj
    exact ⟨v, by rw [List.getElem?_set_self (by rw [← T.1]; exact hlt)], r⟩
  · rw [List.getElem?_set_ne e] at hj ⊢
    exact T.2 j u hj
theorem bindP_tup2 {a b : Pt} {w : W} {ν ν' : List (Option W)} (h : bindP (.pair a b) w ν = some ν') : ∃ x y ν1, w = .d (.tup [x, y]) ∧ bindP a (.d x) ν = some ν1 ∧ bindP b (.d y) ν1 = some ν' := by
  rcases w with d | n | ⟨l, cs⟩
  · cases d <;> first | (cases h; done) | skip
    rename_i xs
    rcases xs with _ | ⟨x, _ | ⟨y, _ | ⟨z, xs⟩⟩⟩ <;> first | (cases h; done) | skip
    have h : (bindP a (.d x) ν).bind (bindP b (.d y)) = some ν' := h
    cases e1 : bindP a (.d x) ν with
    | none => rw [e1] at h; cases h
    | some ν1 => rw [e1] at h; exact ⟨x, y, ν1, rfl, e1, h⟩
  · cases h
  · cases h
theorem bindP_tup3 {a b d : Pt} {w : W} {ν ν' : List (Option W)} (h : bindP (.tri a b d) w ν = some ν') : ∃ x y z ν1 ν2, w = .d (.tup [x, y, z]) ∧ bindP a (.d x) ν = some ν1 ∧ bindP b (.d y) ν1 = some ν2 ∧ bindP d (.d z) ν2 = some ν' := by
  rcases w with d0 | n | ⟨l, cs⟩
  · cases d0 <;> first | (cases h; done) | skip
    rename_i xs
    rcases xs with _ | ⟨x, _ | ⟨y, _ | ⟨z, _ | ⟨z2, xs⟩⟩⟩⟩ <;> first | (cases h; done) | skip
    have h : ((bindP a (.d x) ν).bind (bindP b (.d y))).bind (bindP d (.d z)) = some ν' := h
    cases e1 : bindP a (.d x) ν with
    | none => rw [e1] at h; cases h
    | some ν1 =>
      rw [e1] at h
      have h : (bindP b (.d y) ν1).bind (bindP d (.d z)) = some ν' := h
      cases e2 : bindP b (.d y) ν1 with
      | none => rw [e2] at h; cases h
      | some ν2 => rw [e2] at h; exact ⟨x, y, z, ν1, ν2, rfl, e1, e2, h⟩
  · cases h
  · cases h
theorem pg_ok (g : Gd Γ c S k Z X) : ∀ {pt : Pt} {tg : Expr}, okP S pt tg = true → PG X tg (gB Γ pt) := by
  intro pt
  induction pt with
  | var i =>
    intro tg h
    obtain ⟨x, p, rfl, h1, h2⟩ := fPv_inv (show fPv S i tg = true from h)
    obtain ⟨h3, h4⟩ := g.loc h2
    have P : PG X (.Name x p) (gName i) := pg_name (by rw [g.N]; exact g.nd) (g.ix h1) h3 h4
    refine ⟨fun pins s σ H v u Q I r q => P.run pins s σ H v u Q I r ?_⟩
    obtain ⟨ν, ρ, G, w, ν', T, hs, rv, hb, q⟩ := q
    cases hb
    exact q _ (by simp) (fun j hj => by
      simp [Pt.vars] at hj
      rw [List.getElem?_set_ne (Ne.symm hj)]) (T.set rv)
  | pair a b iha ihb =>
    intro tg h
    obtain ⟨x, y, j, p, rfl, n1, n2, h1, h2⟩ := fPp_inv (show fPp tg (okP S a) (okP S b) = true from h)
    have P : PG X (.Tuple [x, y] j p) (gTup X.K 2 (gCons (gB Γ a) (gCons (gB Γ b) gNil))) := pg_tup g.calm (pgs_cons (iha h1) (pgs_cons (ihb h2) pgs_nil (by rw [assign_of n2]; rfl)) (by rw [assign_of n1]; rfl)) (by rw [assign_of n1, assign_of n2]; rfl) (by rw [assign_of n1, assign_of n2]; rfl)
    refine ⟨fun pins s σ H v u Q I r q => P.run pins s σ H v u Q I r ?_⟩
    obtain ⟨ν, ρ, G, w, ν', T, hs, rv, hb, q⟩ := q
    obtain ⟨d1, d2, ν1, rfl, e1, e2⟩ := bindP_tup2 hb
    have rv' : Rep Γ G (.tup [d1, d2]) v := rv
    cases rv' with
    | tup ht rl =>
      cases rl with
      | cons r1 rl =>
        cases rl with
        | cons r2 rl =>
          cases rl
          refine ⟨_, _, rfl, by rw [g.K]; exact Same.sqT hs ht, rfl, _, _, rfl, ν, ρ, G, .d d1, ν1, T, hs, r1, e1, fun σ1 l1 o1 T1 => ?_⟩
          refine ⟨_, _, rfl, ν1, ρ, G, .d d2, ν', T1, hs, r2, e2, fun σ2 l2 o2 T2 => ⟨rfl, ?_⟩⟩
          exact q σ2 (l2.trans l1) (fun i hi => by
            simp only [Pt.vars, List.mem_append, not_or] at hi
            rw [o2 i hi.2, o1 i hi.1]) T2
  | tri a b d iha ihb ihd =>
    intro tg h
    obtain ⟨x, y, z, j, p, rfl, n1, n2, n3, h1, h2, h3⟩ := fPt_inv (show fPt tg (okP S a) (okP S b) (okP S d) = true from h)
    have P : PG X (.Tuple [x, y, z] j p) (gTup X.K 3 (gCons (gB Γ a) (gCons (gB Γ b) (gCons (gB Γ d) gNil)))) := pg_tup g.calm (pgs_cons (iha h1) (pgs_cons (ihb h2) (pgs_cons (ihd h3) pgs_nil (by rw [assign_of n3]; rfl)) (by rw [assign_of n2]; rfl)) (by rw [assign_of n1]; rfl)) (by rw [assign_of n1, assign_of n2, assign_of n3]; rfl) (by rw [assign_of n1, assign_of n2, assign_of n3]; rfl)
    refine ⟨fun pins s σ H v u Q I r q => P.run pins s σ H v u Q I r ?_⟩
    obtain ⟨ν, ρ, G, w, ν', T, hs, rv, hb, q⟩ := q
    obtain ⟨d1, d2, d3, ν1, ν2, rfl, e1, e2, e3⟩ := bindP_tup3 hb
    have rv' : Rep Γ G (.tup [d1, d2, d3]) v := rv
    cases rv' with
    | tup ht rl =>
      cases rl with
      | cons r1 rl =>
        cases rl with
        | cons r2 rl =>
          cases rl with
          | cons r3 rl =>
            cases rl
            refine ⟨_, _, rfl, by rw [g.K]; exact Same.sqT hs ht, rfl, _, _, rfl, ν, ρ, G, .d d1, ν1, T, hs, r1, e1, fun σ1 l1 o1 T1 => ?_⟩
            refine ⟨_, _, rfl, ν1, ρ, G, .d d2, ν2, T1, hs, r2, e2, fun σ2 l2 o2 T2 => ?_⟩
            refine ⟨_, _, rfl, ν2, ρ, G, .d d3, ν', T2, hs, r3, e3, fun σ3 l3 o3 T3 => ⟨rfl, ?_⟩⟩
            exact q σ3 (l3.trans (l2.trans l1)) (fun i hi => by
              simp only [Pt.vars, List.mem_append, not_or] at hi
              rw [o3 i hi.2.2, o2 i hi.2.1, o1 i hi.1]) T3

/-! ### slots forgotten -/
theorem wipeV_length (ν : List (Option W)) : ∀ vs : List Nat, (wipeV ν vs).length = ν.length
  | [] => rfl
  | v :: vs => by unfold wipeV; rw [List.length_set, wipeV_length ν vs]
theorem Slots.wipe {G : Hp} {ρ : Rho} {ν : List (Option W)} {σ : L2.St} (T : Slots Γ G ρ ν σ) : ∀ vs : List Nat, Slots Γ G ρ (wipeV ν vs) (wipe σ vs)
  | [] => T
  | v :: vs => by
    have ih := Slots.wipe T vs
    unfold wipeV L2.wipe
    refine ⟨by simp [ih.1], fun j u hj => ?_⟩
    by_cases e : v = j
    · subst e
      by_cases hlt : v < (wipeV ν vs).length
      · rw [List.getElem?_set_self hlt] at hj; cases hj
      · rw [List.getElem?_eq_none (by simpa using hlt)] at hj; cases hj
    · rw [List.getElem?_set_ne e] at hj ⊢
      exact ih.2 j u hj
theorem wipe_at {σ : L2.St} {j : Nat} : ∀ vs : List Nat, (wipe σ vs)[j]? = if j ∈ vs then (if j < σ.length then some none else none) else σ[j]?
  | [] => by simp [L2.wipe]
  | v :: vs => by
    unfold L2.wipe
    have hl : (wipe σ vs).length = σ.length := wipe_length σ vs
    by_cases e : v = j
    · subst e
      rw [if_pos (by simp)]
      by_cases hlt : v < σ.length
      · rw [if_pos hlt, List.getElem?_set_self (by rw [hl]; exact hlt)]
      · rw [if_neg hlt, List.getElem?_eq_none (by rw [List.length_set, hl]; omega)]
    · rw [List.getElem?_set_ne e, wipe_at vs]
      have : (j ∈ v :: vs) ↔ j ∈ vs := by simp [Ne.symm e]
      by_cases h : j ∈ vs
      · rw [if_pos h, if_pos (this.mpr h)]
      · rw [if_neg h, if_neg (fun q => h (this.mp q))]
theorem wipe_eq {σ σ' : L2.St} {vs : List Nat} (hl : σ'.length = (wipe σ vs).length) (h : ∀ i, i ∉ vs → σ'[i]? = (wipe σ vs)[i]?) : wipe σ' vs = wipe σ vs := by
  rw [wipe_length] at hl
  refine List.ext_getElem? fun j => ?_
  rw [wipe_at, wipe_at]
  by_cases hj : j ∈ vs
  · rw [if_pos hj, if_pos hj, hl]
  · rw [if_neg hj, if_neg hj, h j hj, wipe_at, if_neg hj]

/-! ### a comprehension's block -/
theorem Gd.blk (g : Gd Γ c S k Z X) (scope : Scope) (s : Shared) (H : Hp) (C : Addr) (cl : List (Str × Addr)) (fp : List Addr) : Gd Γ c (S.blk scope) k (fun _ _ _ _ => False) (X.blk s H scope (compEnvC scope cl C X.env) fp) :=
  ⟨g.P, g.w, g.K, g.mg, g.base, g.N, g.nd, by show relS scope X.env.scope = relS scope S.sc; rw [g.sc], fun _ => rfl, g.calm, g.room4, takes0, g.fns, g.gd, fun q h => by cases h⟩
def ownL (S : SC) (vs : List Nat) : List (Str × Nat) := vs.map fun i => (S.N.getD i ⟨#[]⟩, i)
theorem ownL_ix (S : SC) (vs : List Nat) : (ownL S vs).map (·.2) = vs := by
  unfold ownL
  rw [List.map_map]
  exact List.map_id _
theorem blk_ok (g : Gd Γ c S k Z X) {scope : Scope} {vs : List Nat} (h : okBlk S scope vs = true) : BlkOk X.N X.env.scope scope (ownL S vs) := by
  simp only [okBlk, Bool.and_eq_true, List.all_eq_true] at h
  obtain ⟨⟨⟨⟨h1, h2⟩, h3⟩, h4⟩, h5⟩ := h
  rw [g.N, g.sc]
  refine ⟨beq_iff_eq.mp h1, fun y hy => beq_iff_eq.mp (h2 y hy), fun p hp => ?_, fun y hy e => ?_, fun y hy e => ?_⟩
  · obtain ⟨i, hi, rfl⟩ := List.mem_map.mp hp
    have := of_decide_eq_true (h3 i hi)
    simp [List.getD, this]
  · have := h4 y hy
    rw [e] at this
    simp only [beq_self_eq_true, Bool.not_true, Bool.false_or, Bool.or_eq_true, beq_iff_eq] at this
    exact this
  · have := h5 y hy
    have e2 : (y.2 == NameKind.local || y.2 == .cell) = true := by
      rcases e with e | e <;> rw [e] <;> rfl
    rw [e2] at this
    simp only [Bool.not_true, Bool.false_or, Bool.or_eq_true, Bool.not_eq_true', List.contains_eq_mem, decide_eq_true_eq, decide_eq_false_iff_not] at this
    rcases this with h | h
    · left
      unfold ownL
      rw [List.map_map]
      exact h
    · exact .inr h
end
end Ip

set_option Elab.async false
set_option linter.all false
set_option maxRecDepth 100000
set_option maxHeartbeats 400000
/-! IpLc: list comprehensions of one clause. -/
namespace Ip
open PySem PySem.Spec PyProof.Rows L2
section
variable {Γ : Env} {c : Cfg} {S : SC} {k : Nat} {Z : WX} {X : Cx}
abbrev ZN : WX := fun _ _ _ _ => False
theorem noX_ok {α β : Type} {m : M α} {kk : α → M β} {Rp : Hp → Rho → β → Hp → Prop} {σ : L2.St} {ρ : Rho} {G : Hp} {η0 η : Hv} {H : Hp} (h : Fin Γ Z Rp σ ρ G η0 H ((noX m >>= kk) η)) : ∃ a η1, m η = .ok a η1 ∧ Fin Γ Z Rp σ ρ G η0 H (kk a η1) := by
  rw [M.bind_ap] at h
  cases e : m η with
  | ok a η1 =>
    have e' : noX m η = .ok a η1 := by unfold noX; rw [e]
    rw [e'] at h
    exact ⟨a, η1, rfl, h⟩
  | exc x η1 =>
    have e' : noX m η = .bad := by unfold noX; rw [e]
    rw [e'] at h
    exact Fin.badE h
  | bad =>
    have e' : noX m η = .bad := by unfold noX; rw [e]
    rw [e'] at h
    exact Fin.badE h
theorem noX_noexc {α : Type} {m : M α} {η η' : Hv} {e : D} : noX m η ≠ .exc e η' := by
  unfold noX
  intro h
  cases q : m η with
  | ok a η1 => rw [q] at h; cases h
  | exc x η1 => rw [q] at h; cases h
  | bad => rw [q] at h; cases h
theorem loop_nil {ik : Ik} {ws : List W} {sn : Snap} {f : W → M (List D)} {η : Hv} : loopM ik ws sn f [] η = if snap ik ws η = some sn then .ok [] η else .bad := rfl
theorem loop_cons {ik : Ik} {ws : List W} {sn : Snap} {f : W → M (List D)} {x : W} {xs : List W} {η : Hv} : loopM ik ws sn f (x :: xs) η = if snap ik ws η = some sn then (do
      let ys ← f x
      let zs ← loopM ik ws sn f xs
      Pure.pure (ys ++ zs) : M (List D)) η else .bad := rfl
theorem loop_noexc {ik : Ik} {ws : List W} {sn : Snap} {f : W → M (List D)} (hf : ∀ x η e η', f x η ≠ .exc e η') : ∀ (xs : List W) (η : Hv) (e : D) (η' : Hv), loopM ik ws sn f xs η ≠ .exc e η'
  | [], η, e, η', h => by
    rw [loop_nil] at h
    split at h <;> cases h
  | x :: xs, η, e, η', h => by
    rw [loop_cons] at h
    split at h
    · rw [M.bind_ap] at h
      cases q : f x η with
      | ok ys η1 =>
        rw [q] at h
        simp only at h
        rw [M.bind_ap] at h
        cases q2 : loopM ik ws sn f xs η1 with
        | ok zs η2 => rw [q2] at h; cases h
        | exc x2 η2 => exact loop_noexc hf xs η1 _ _ q2
        | bad => rw [q2] at h; cases h
      | exc x2 η2 => exact hf _ _ _ _ q
      | bad => rw [q] at h; cases h
    · cases h
/-- a turn of the loop -/
theorem loop_step {β : Type} {ik : Ik} {ws : List W} {sn : Snap} {f : W → M (List D)} {x : W} {xs : List W} {kk : List D → M β} {Rp : Hp → Rho → β → Hp → Prop} {σ : L2.St} {ρ : Rho} {G : Hp} {η0 η : Hv} {H : Hp}
    (h : Fin Γ Z Rp σ ρ G η0 H ((loopM ik ws sn f (x :: xs) >>= kk) η)) : snap ik ws η = some sn ∧ Fin Γ Z Rp σ ρ G η0 H ((f x >>= fun ys => loopM ik ws sn f xs >>= fun zs => kk (ys ++ zs)) η) := by
  by_cases hs : snap ik ws η = some sn
  · refine ⟨hs, ?_⟩
    have e : (loopM ik ws sn f (x :: xs) >>= kk) η = (f x >>= fun ys => loopM ik ws sn f xs >>= fun zs => kk (ys ++ zs)) η := by
      have e1 : loopM ik ws sn f (x :: xs) η = (do
        let ys ← f x
        let zs ← loopM ik ws sn f xs
        Pure.pure (ys ++ zs) : M (List D)) η := by rw [loop_cons, if_pos hs]
      rw [M.bind_ap, e1, ← M.bind_ap (f := kk)]
      simp only [M.bind_assoc, M.pure_bind]
    rw [e] at h
    exact h
  · exfalso
    rw [M.bind_ap, loop_cons, if_neg hs] at h
    exact h
theorem loop_end {β : Type} {ik : Ik} {ws : List W} {sn : Snap} {f : W → M (List D)} {kk : List D → M β} {Rp : Hp → Rho → β → Hp → Prop} {σ : L2.St} {ρ : Rho} {G : Hp} {η0 η : Hv} {H : Hp}
    (h : Fin Γ Z Rp σ ρ G η0 H ((loopM ik ws sn f [] >>= kk) η)) : snap ik ws η = some sn ∧ Fin Γ Z Rp σ ρ G η0 H (kk [] η) := by
  by_cases hs : snap ik ws η = some sn
  · refine ⟨hs, ?_⟩
    rw [M.bind_ap, loop_nil, if_pos hs] at h
    exact h
  · exfalso
    rw [M.bind_ap, loop_nil, if_neg hs] at h
    exact h
theorem mkL_len {al : Bool} {ys : List D} {η η' : Hv} {w : W} (h : mkL al ys η = .ok w η') : ys.length ≤ lim := by
  unfold mkL at h
  split at h
  · assumption
  · cases h
theorem loop_bound {ik : Ik} {ws : List W} {sn : Snap} {f : W → M (List D)} (hf : ∀ x η e η', f x η ≠ .exc e η') {al : Bool} {ys : List D} {xs : List W} {Rp : Hp → Rho → W → Hp → Prop} {σ : L2.St} {ρ : Rho} {G : Hp} {η0 η : Hv} {H : Hp}
    (h : Fin Γ Z Rp σ ρ G η0 H ((loopM ik ws sn f xs >>= fun zs => mkL al (ys ++ zs)) η)) : ys.length ≤ lim := by
  rw [M.bind_ap] at h
  cases q : loopM ik ws sn f xs η with
  | ok zs η1 =>
    rw [q] at h
    simp only at h
    by_cases hz : (ys ++ zs).length ≤ lim
    · rw [List.length_append] at hz; omega
    · unfold mkL at h
      rw [if_neg hz] at h
      exact Fin.badE h
  | exc x η1 => exact absurd q (loop_noexc hf xs η x η1)
  | bad => rw [q] at h; exact Fin.badE h

/-! ### an object that is not ours yet -/
/-- it is tracked, neither frozen nor the run's own -/
def Loose (G : Hp) (η : Hv) (ρ : Rho) (D : Addr) : Prop := G D = none ∧ ¬ Own η ρ D
theorem Loose.ext {ρ ρ' : Rho} {G G' H H' : Hp} {η η' : Hv} {D : Addr} {o : HO} (l : Loose G η ρ D) (hD : H D = some o) (E : Ext ρ G η H ρ' G' η' H') (nt : Cont o := by exact trivial) : Loose G' η' ρ' D ∧ H' D = some o := by
  refine ⟨⟨?_, fun ho => ?_⟩, E.kept D o hD l.2 fun ps z => by rw [z] at nt; exact nt⟩
  · cases q : G' D with
    | none => rfl
    | some u =>
      rcases E.fresh D (by rw [q]; simp) with h | h | h | ⟨xs, h⟩
      · exact absurd l.1 h
      · rw [hD] at h; cases h
      · exact absurd h l.2
      · rw [hD] at h; cases h
        exact absurd nt (fun z => z)
  · rcases E.own D ho with h | h
    · exact l.2 h
    · rw [hD] at h; cases h
theorem Sim.notOwn {ρ : Rho} {G H : Hp} {η : Hv} (Sm : Sim Γ ρ G η H) {D : Addr} (hD : H D = none) : ¬ Own η ρ D := fun ⟨n, ⟨o, h1, h2⟩, h3⟩ => by
  obtain ⟨a, h4, _, h5⟩ := (Sm.obj n o h1).at h2
  rw [h3] at h4; cases h4
  exact h5 hD
theorem Sim.gnone {ρ : Rho} {G H : Hp} {η : Hv} (Sm : Sim Γ ρ G η H) {D : Addr} (hD : H D = none) : G D = none := by
  cases e : G D with
  | none => rfl
  | some o => rw [Sm.same D o e] at hD; cases hD
/-- it is written -/
theorem Sim.loose {ρ : Rho} {G H : Hp} {η : Hv} (Sm : Sim Γ ρ G η H) {D : Addr} (l : Loose G η ρ D) (o : HO) (hq : ∀ u, H D = some u → Cont u) : Sim Γ ρ G η (upd H D o) := by
  refine ⟨fun a u h => ?_, fun n o' h => ?_, Sm.inj, Sm.new, tab_move Sm.tab fun b u e n1 => ?_, Sm.ntb⟩
  · have : a ≠ D := fun e => by subst e; rw [l.1] at h; cases h
    rw [upd_ne this]; exact Sm.same a u h
  · by_cases hd : o' = .dead
    · subst hd; trivial
    · refine (Sm.obj n o' h).move (fun _ _ q => q) (Same.refl G) (fun a ha => ?_) fun a u ha hu => ?_
      · obtain ⟨b, h4, h6, _⟩ := (Sm.obj n o' h).at hd
        rw [ha] at h4; cases h4
        exact h6
      · have : a ≠ D := fun e => by subst e; exact l.2 ⟨n, ⟨o', h, hd⟩, ha⟩
        rw [upd_ne this]; exact hu
  · have : b ≠ D := fun z => by
      subst z
      exact n1 (hq u e)
    rw [upd_ne this]; exact e
/-- from a base in which it was not -/
theorem Ext.loose {ρ ρ' : Rho} {G G' H H' : Hp} {η η' : Hv} {D : Addr} (E : Ext ρ G η H ρ' G' η' H') (hD : H D = none) (o : HO) : Ext ρ G η H ρ' G' η' (upd H' D o) :=
  ⟨E.rho, E.same, fun a u h no nt => by
    have : a ≠ D := ne_of_none h hD
    rw [upd_ne this]; exact E.kept a u h no nt, fun a ps h => by
    have : a ≠ D := ne_of_none h hD
    obtain ⟨qs, q⟩ := E.tbl a ps h
    exact ⟨qs, by rw [upd_ne this]; exact q⟩, E.fresh, E.own⟩
/-- the evaluator's turn -/
def turnF (c : Cfg) (vs : List Nat) (pt : Pt) (r : Ex) (ν : List (Option W)) : W → M (List D) := fun x => noX (match bindP pt x (wipeV ν vs) with
  | some ν' => evg c r ν'
  | none => M.bad)
theorem ev_lc {al : Bool} {vs : List Nat} {ik : Ik} {pt : Pt} {it r : Ex} : ev c (.lc al vs ik pt it r) = fun ν => (do let q ← itM ik (evl c it) ν; let ys ← loopM ik q.1 q.2.1 (turnF c vs pt r ν) q.2.2; mkL al ys) := by
  funext ν
  simp [ev, itM]
  rfl
/-- the turn's readings -/
inductive GenR (Γ : Env) (c : Cfg) : Ex → TT → TE → Prop
  | y (x : Ex) : GenR Γ c (.yld x) tYes (tI Γ ZN (ev c x))
  | f (t x : Ex) : GenR Γ c (.gif t (.yld x)) (tT Γ ZN (ev c t)) (tI Γ ZN (ev c x))
theorem yld_ok {x : Ex} {ν : List (Option W)} {η η' : Hv} {ys : List D} (h : evg c (.yld x) ν η = .ok ys η') : ∃ d, ev c x ν η = .ok (.d d) η' ∧ ys = [d] := by
  simp only [evg] at h
  rw [M.bind_ap] at h
  cases e : ev c x ν η with
  | ok w η1 =>
    rw [e] at h
    cases w with
    | d d => cases h; exact ⟨d, rfl, rfl⟩
    | ref n => cases h
    | clo l cs => cases h
  | exc x η1 => rw [e] at h; cases h
  | bad => rw [e] at h; cases h
theorem gif_ok {t r : Ex} {ν : List (Option W)} {η η' : Hv} {ys : List D} (h : evg c (.gif t r) ν η = .ok ys η') : ∃ b η1, ev c t ν η = .ok (.d (.bl b)) η1 ∧ (b = true → evg c r ν η1 = .ok ys η') ∧ (b = false → ys = [] ∧ η' = η1) := by
  simp only [evg] at h
  rw [M.bind_ap] at h
  cases e : ev c t ν η with
  | ok w η1 =>
    rw [e] at h
    cases w with
    | d d =>
      cases d <;> first | (cases h; done) | skip
      rename_i b
      refine ⟨b, η1, rfl, fun hb => ?_, fun hb => ?_⟩
      · subst hb; exact h
      · subst hb; cases h; exact ⟨rfl, rfl⟩
    | ref n => cases h
    | clo l cs => cases h
  | exc x η1 => rw [e] at h; cases h
  | bad => rw [e] at h; cases h
/-- a turn's reading from its evaluation -/
theorem gen_read {r : Ex} {tt : TT} {te : TE} (hr : GenR Γ c r tt te) {ν : List (Option W)} {ρ : Rho} {G H : Hp} {η η' : Hv} {σ : L2.St} {ys : List D} (Sm : Sim Γ ρ G η H) (T : Slots Γ G ρ ν σ) (e : evg c r ν η = .ok ys η')
    {K1 : V → Hp → Prop} {K0 : Hp → Prop} (h1 : ∀ d y ρ' G' H', ys = [d] → Sim Γ ρ' G' η' H' → Ext ρ G η H ρ' G' η' H' → Rep Γ G' d y → K1 y H') (h0 : ∀ ρ' G' H', ys = [] → Sim Γ ρ' G' η' H' → Ext ρ G η H ρ' G' η' H' → K0 H') :
    tt σ H fun b H3 => if b = true then te σ H3 fun y H4 => K1 y H4 else K0 H3 := by
  cases hr with
  | y x =>
    obtain ⟨d, e1, rfl⟩ := yld_ok e
    show (if true = true then tI Γ ZN (ev c x) σ H (fun y H4 => K1 y H4) else K0 H)
    rw [if_pos rfl]
    refine ⟨ν, η, ρ, G, Sm, T, ?_⟩
    rw [e1]
    exact fun ρ' G' H' S' E' v rv => h1 d v ρ' G' H' rfl S' E' rv
  | f t x =>
    obtain ⟨b, η1, e1, et, ef⟩ := gif_ok e
    refine ⟨ν, η, ρ, G, Sm, T, ?_⟩
    rw [e1]
    intro ρ1 G1 H1 S1 E1
    refine ⟨b, rfl, ?_⟩
    cases b with
    | true =>
      rw [if_pos rfl]
      obtain ⟨d, e2, rfl⟩ := yld_ok (et rfl)
      refine ⟨ν, η1, ρ1, G1, S1, T.mono E1.same E1.rho, ?_⟩
      rw [e2]
      exact fun ρ' G' H' S' E' v rv => h1 d v ρ' G' H' rfl S' (E1.trans E') rv
    | false =>
      rw [if_neg Bool.false_ne_true]
      obtain ⟨rfl, rfl⟩ := ef rfl
      exact h0 ρ1 G1 H1 rfl S1 E1
theorem RepL.ofData {G : Hp} {ρ : Rho} : ∀ {xs : List D} {vs : List V}, RepL Γ G xs vs → RepWs Γ G ρ (xs.map W.d) vs
  | _, _, .nil => .nil
  | _, _, .cons h r => .cons h (RepL.ofData r)
/-- the comprehension's reading -/
theorem lc_read {al : Bool} {vs : List Nat} {ik : Ik} {pt : Pt} {it r : Ex} {tt : TT} {te : TE} (hr : GenR Γ c r tt te) (hv : ∀ i ∈ pt.vars, i ∈ vs) {σ : L2.St} {H : Hp} {Q : VK} (t : tI Γ Z (ev c (.lc al vs ik pt it r)) σ H Q) :
    tLc (tIt Γ Z ik (evl c it)) (gB Γ pt) tt te vs σ H Q := by
  rw [ev_lc] at t
  obtain ⟨ν, η, ρ, G, S0, T0, t⟩ := t
  refine ⟨ν, η, ρ, G, S0, T0, Fin.bind t _ fun q ρ1 G1 η1 H1 S1 E1 t1 us ru cs J hJ => ?_⟩
  obtain ⟨ws, sn, its⟩ := q
  simp only at t1 ru cs hJ
  have T1 := T0.mono E1.same E1.rho
  intro D hD
  have hf : ∀ x η e η', turnF c vs pt r ν x η ≠ .exc e η' := fun x η e η' => noX_noexc
  have l1 : Loose G1 η1 ρ1 D := ⟨S1.gnone hD, S1.notOwn hD⟩
  refine ⟨fun i m H => m = its.length - i ∧ i ≤ its.length ∧ ∃ η' ρ' G' ys acc, Sim Γ ρ' G' η' H ∧ Ext ρ1 G1 η1 H1 ρ' G' η' H ∧ Loose G' η' ρ' D ∧ H D = some (.lst acc) ∧ RepL Γ G' ys acc ∧
    Fin Γ Z (pW Γ Q) σ ρ1 G1 η1 H1 ((loopM ik ws sn (turnF c vs pt r ν) (its.drop i) >>= fun zs => mkL al (ys ++ zs)) η'), ⟨its.length, by simp, Nat.zero_le _, η1, ρ1, G1, [], [], S1.loose l1 _ (fun u z => by rw [hD] at z; cases z), (Ext.refl _ _ _ _).loose hD _, l1, upd_same, .nil, ?_⟩, ?_⟩
  · rw [List.drop_zero]
    simpa using t1
  · rintro i m H' ⟨rfl, hi, η', ρ', G', ys, acc, S', E', l', hD', ra, t'⟩
    have rus : RepWs Γ G' ρ' ws us := ru.mono E'.same E'.rho
    by_cases hlt : i < its.length
    · -- a turn
      rw [List.drop_eq_getElem_cons hlt] at t'
      obtain ⟨hsn, t2⟩ := loop_step t'
      have cs' := snap_ok S' rus hsn
      refine .inr ⟨hJ.goes i G' ρ' H' hlt S'.same cs', _, fun H'' w => ⟨its.length - (i + 1), by omega, w⟩, fun x H2 y => ?_⟩
      obtain ⟨w, hw, sm, rw_⟩ := hJ.yields i G' ρ' H' x H2 hlt S'.same cs' y
      have ew : w = its[i] := by simpa [hlt] using hw.symm
      subst ew
      have S2 := S'.grow sm
      have E2 := Ext.grow S' sm
      obtain ⟨l2, hD2⟩ := l'.ext hD' E2
      have E12 := E'.trans E2
      -- the turn's own value
      obtain ⟨zs, η3, ez, t3⟩ := noX_ok (m := (match bindP pt its[i] (wipeV ν vs) with
        | some ν' => evg c r ν'
        | none => M.bad)) t2
      cases eb : bindP pt its[i] (wipeV ν vs) with
      | none => rw [eb] at ez; cases ez
      | some ν' =>
        rw [eb] at ez
        have ez : evg c r ν' η' = .ok zs η3 := ez
        refine ⟨wipeV ν vs, ρ', _, its[i], ν', (T1.wipe vs).mono (E'.same.trans (grow_same S'.same)) E'.rho, S2.same, rw_, eb, fun σ2 hl ho T2 => ⟨wipe_eq hl fun j hj => ho j fun q => hj (hv j q), ?_⟩⟩
        refine gen_read hr S2 T2 ez (fun d yv ρ4 G4 H4 hz S4 E4 rd => ?_) fun ρ4 G4 H4 hz S4 E4 => ?_
        · subst hz
          obtain ⟨l4, hD4⟩ := l2.ext hD2 E4
          have E14 := E12.trans E4
          have ra4 := RepL.mono ((grow_same S'.same).trans E4.same) ra
          have t4 : Fin Γ Z (pW Γ Q) σ ρ1 G1 η1 H1 ((loopM ik ws sn (turnF c vs pt r ν) (its.drop (i + 1)) >>= fun zs => mkL al ((ys ++ [d]) ++ zs)) η3) := by
            simpa [List.append_assoc] using t3
          have hb := loop_bound hf t4
          refine ⟨acc, hD4, by rw [ra.length, hsz]; simp at hb; omega, rfl, hlt, η3, ρ4, G4, ys ++ [d], acc ++ [yv], S4.loose l4 _ (fun u z => by rw [hD4] at z; cases z; exact trivial), E14.loose hD _, l4, upd_same, ra4.append (.cons rd .nil), t4⟩
        · subst hz
          obtain ⟨l4, hD4⟩ := l2.ext hD2 E4
          have E14 := E12.trans E4
          have ra4 := RepL.mono ((grow_same S'.same).trans E4.same) ra
          exact ⟨rfl, hlt, η3, ρ4, G4, ys, acc, S4, E14, l4, hD4, ra4, by simpa using t3⟩
    · -- the end
      have ei : i = its.length := by omega
      subst ei
      rw [List.drop_length] at t'
      obtain ⟨hsn, t2⟩ := loop_end t'
      have cs' := snap_ok S' rus hsn
      refine .inl ⟨hJ.stops G' ρ' H' S'.same cs', ?_⟩
      rw [List.append_nil] at t2
      unfold mkL at t2
      by_cases hz : ys.length ≤ lim
      · rw [if_pos hz] at t2
        cases al with
        | false =>
          rw [if_neg Bool.false_ne_true] at t2
          have sg : Same G' (upd G' D (.lst acc)) := same_upd l'.1
          refine t2 ρ' (upd G' D (.lst acc)) H' ⟨fun a u h => ?_, fun n o h => ?_, S'.inj, S'.new, S'.tab, fun a ps z => by
            by_cases e : a = D
            · subst e; rw [upd_same] at z; cases z
            · rw [upd_ne e] at z; exact S'.ntb a ps z⟩ ⟨E'.rho, E'.same.trans sg, E'.kept, E'.tbl, fun a h => ?_, E'.own⟩ (.ref D) (.lst (.inl upd_same) (RepL.mono sg ra))
          · by_cases e : a = D
            · subst e; rw [upd_same] at h; cases h; exact hD'
            · rw [upd_ne e] at h; exact S'.same a u h
          · by_cases hd : o = .dead
            · subst hd; trivial
            · refine (S'.obj n o h).move (fun _ _ q => q) sg (fun a ha => ?_) fun a u _ hu => hu
              obtain ⟨b, h4, h6, _⟩ := (S'.obj n o h).at hd
              rw [ha] at h4; cases h4
              have : a ≠ D := fun e => by subst e; exact l'.2 ⟨n, ⟨o, h, hd⟩, ha⟩
              rw [upd_ne this]
              exact h6
          · by_cases e : a = D
            · subst e; exact .inr (.inl hD)
            · rw [upd_ne e] at h; exact E'.fresh a h
        | true =>
          rw [if_pos rfl] at t2
          have hn : ρ' η'.length = none := S'.new _ (Nat.le_refl _)
          have er := updR_le (p := D) hn
          have self : updR ρ' η'.length D η'.length = some D := by unfold updR; rw [if_pos rfl]
          have cases_ : ∀ n o, (η' ++ [VO.lst (ys.map W.d)])[n]? = some o → η'[n]? = some o ∨ (n = η'.length ∧ o = .lst (ys.map W.d)) := fun n o e => by
            by_cases h : n < η'.length
            · rw [List.getElem?_append_left h] at e; exact .inl e
            · rw [List.getElem?_append_right (by omega)] at e
              have : n - η'.length = 0 := by
                cases q : n - η'.length with
                | zero => rfl
                | succ k => rw [q] at e; simp at e
              rw [this] at e
              simp at e
              exact .inr ⟨by omega, e.symm⟩
          have lv : ∀ n, live (η' ++ [VO.lst (ys.map W.d)]) n → live η' n ∨ n = η'.length := fun n ⟨o, h1, h2⟩ => by
            rcases cases_ n o h1 with h | ⟨h, _⟩
            · exact .inl ⟨o, h, h2⟩
            · exact .inr h
          have rold : ∀ n a, live η' n → updR ρ' η'.length D n = some a → ρ' n = some a := fun n a ⟨o, h1, _⟩ h => by
            unfold updR at h
            have : n < η'.length := by
              obtain ⟨h2, _⟩ := List.getElem?_eq_some_iff.mp h1
              exact h2
            rw [if_neg (by omega)] at h
            exact h
          refine t2 (updR ρ' η'.length D) G' H' ⟨S'.same, fun n o h => ?_, fun n m a h1 h2 h3 h4 => ?_, fun n hn' => ?_, S'.tab, S'.ntb⟩ ⟨fun n a h => er n a (E'.rho n a h), E'.same, E'.kept, E'.tbl, E'.fresh, fun a h => ?_⟩ (.ref D) ⟨D, self, rfl⟩
          · rcases cases_ n o h with h | ⟨rfl, rfl⟩
            · by_cases hd : o = .dead
              · subst hd; trivial
              · refine (S'.obj n o h).move er (Same.refl G') (fun a ha => ?_) fun a u _ hu => hu
                obtain ⟨b, h4, h6, _⟩ := (S'.obj n o h).at hd
                rw [ha] at h4; cases h4
                exact h6
            · exact ⟨D, acc, self, l'.1, hD', RepL.ofData ra⟩
          · rcases lv n h1 with h1 | rfl <;> rcases lv m h2 with h2 | rfl
            · exact S'.inj n m a h1 h2 (rold n a h1 h3) (rold m a h2 h4)
            · rw [self] at h4; cases h4
              exact absurd ⟨n, h1, rold n _ h1 h3⟩ l'.2
            · rw [self] at h3; cases h3
              exact absurd ⟨m, h2, rold m _ h2 h4⟩ l'.2
            · rfl
          · rw [List.length_append] at hn'
            simp only [List.length_singleton] at hn'
            unfold updR
            rw [if_neg (by omega)]
            exact S'.new n (by omega)
          · obtain ⟨n, h1, h2⟩ := h
            rcases lv n h1 with h1 | rfl
            · exact E'.own a ⟨n, h1, rold n a h1 h2⟩
            · rw [self] at h2; cases h2; exact .inr hD
      · rw [if_neg hz] at t2
        exact Fin.badE t2
end
end Ip

set_option Elab.async false
set_option linter.all false
set_option maxRecDepth 100000
set_option maxHeartbeats 400000
/-! IpDct: pop, own dicts. -/
namespace Ip
open PySem PySem.Spec PyProof.Rows L2
section
variable {Γ : Env} {B : Tb} {c : Cfg} {S : SC} {k : Nat} {Z : WX} {X : Cx} {ρ : Rho} {G H : Hp} {η : Hv}
theorem RepWs.dropLast {G : Hp} {ρ : Rho} : ∀ {ws : List W} {vs : List V}, RepWs Γ G ρ ws vs → RepWs Γ G ρ ws.dropLast vs.dropLast
  | _, _, .nil => .nil
  | _, _, .cons h .nil => .nil
  | _, _, .cons h (.cons h2 r) => .cons h (RepWs.dropLast (.cons h2 r))
theorem RepWs.eraseIdx {G : Hp} {ρ : Rho} : ∀ {ws : List W} {vs : List V} (i : Nat), RepWs Γ G ρ ws vs → RepWs Γ G ρ (ws.eraseIdx i) (vs.eraseIdx i)
  | _, _, _, .nil => .nil
  | _, _, 0, .cons _ r => r
  | _, _, i + 1, .cons h r => .cons h (RepWs.eraseIdx i r)
theorem popW_ok {w : W} {Rp : Hp → Rho → W → Hp → Prop} {σ : L2.St} {H0 : Hp} {ρ0 : Rho} {G0 : Hp} {η0 : Hv} (h : Fin Γ Z Rp σ ρ0 G0 η0 H0 (popW w η)) : ∃ n ws x, w = .ref n ∧ η[n]? = some (.lst ws) ∧ ws.getLast? = some x ∧ Fin Γ Z Rp σ ρ0 G0 η0 H0 (.ok x (η.set n (.lst ws.dropLast))) := by
  unfold popW at h
  cases w with
  | d x => exact Fin.badE h
  | clo l cs => exact Fin.badE h
  | ref n =>
    simp only at h
    cases e : η[n]? with
    | none => rw [e] at h; exact Fin.badE h
    | some o =>
      rw [e] at h
      cases o with
      | lst ws =>
        simp only at h
        cases e2 : ws.getLast? with
        | none => rw [e2] at h; exact Fin.badE h
        | some x => rw [e2] at h; exact ⟨n, ws, x, rfl, e, e2, h⟩
      | dead => exact Fin.badE h
      | dct _ => exact Fin.badE h
      | cel _ => exact Fin.badE h
theorem popiW_ok {w i : W} {Rp : Hp → Rho → W → Hp → Prop} {σ : L2.St} {H0 : Hp} {ρ0 : Rho} {G0 : Hp} {η0 : Hv} (h : Fin Γ Z Rp σ ρ0 G0 η0 H0 (popiW w i η)) : ∃ n ws j m x, w = .ref n ∧ i = .d (.int j) ∧ η[n]? = some (.lst ws) ∧ ixN ws.length j = some m ∧ ws[m]? = some x ∧ (-(2 ^ 63) ≤ j ∧ j < 2 ^ 63) ∧ Fin Γ Z Rp σ ρ0 G0 η0 H0 (.ok x (η.set n (.lst (ws.eraseIdx m)))) := by
  unfold popiW at h
  cases w with
  | d x => exact Fin.badE h
  | clo l cs => exact Fin.badE h
  | ref n =>
    cases i with
    | ref m => exact Fin.badE h
    | clo l cs => exact Fin.badE h
    | d di =>
      cases di <;> first | exact Fin.badE h | skip
      rename_i j
      simp only at h
      cases e : η[n]? with
      | none => rw [e] at h; exact Fin.badE h
      | some o =>
        rw [e] at h
        cases o with
        | lst ws =>
          simp only at h
          cases e2 : ixN ws.length j with
          | none => rw [e2] at h; exact Fin.badE h
          | some m =>
            rw [e2] at h
            simp only at h
            cases e3 : ws[m]? with
            | none => rw [e3] at h; exact Fin.badE h
            | some x =>
              rw [e3] at h
              simp only at h
              by_cases hb : -(2 ^ 63) ≤ j ∧ j < 2 ^ 63
              · rw [if_pos hb] at h; exact ⟨n, ws, j, m, x, rfl, rfl, e, e2, e3, hb, h⟩
              · rw [if_neg hb] at h; exact Fin.badE h
        | dead => exact Fin.badE h
        | dct _ => exact Fin.badE h
        | cel _ => exact Fin.badE h
theorem snd_pop {a : Ex} (iha : SndE Γ B c a) : SndE Γ B c (.pop a) := by
  intro S k Z X g
  refine ⟨fun e h => ?_, fun es h => (by cases h), fun _ _ h => (by cases h)⟩
  obtain ⟨o, apos, cpos, rfl, h2, h3, h5⟩ := fMt0_inv (show fMt0 "pop" e (okE B a S) = true from h)
  have p1 := ((iha S k Z X g).1 _ h5).1
  have e2 : ev c (.pop a) = fun ν => (do let w ← ev c a ν; popW w) := by funext ν; simp [ev]
  refine both rfl (PE.imp (pe_bm0 PySem.F.plainAttrs_list PySem.F.slot_list_pop PySem.F.type_list_pop mt_pop p1 (base_of h2 _ _) h3) fun σ H Q t => ?_)
  rw [e2] at t
  obtain ⟨ν, η, ρ, G, S', T, t⟩ := t
  refine ⟨ν, η, ρ, G, S', T, Fin.bind t _ fun w ρ1 G1 η1 H1 S1 E1 t1 v rv => ?_⟩
  obtain ⟨n, ws, x, rfl, e3, e4, t2⟩ := popW_ok t1
  obtain ⟨p, vs, rfl, hp, hl, hH, rs⟩ := own_lst S1 e3 rv
  obtain ⟨S3, E3⟩ := S1.put hl hp rs.dropLast
  have hx : ws[ws.length - 1]? = some x := by rw [← List.getLast?_eq_getElem?]; exact e4
  obtain ⟨y, hy, ry⟩ := RepWs.get rs hx
  exact ⟨.inl ⟨rfl, vs, .inl (.inl hH)⟩, p, vs, y, rfl, rfl, hH, by rw [rs.length]; exact hy, t2 _ _ _ S3 E3 _ ry⟩
theorem snd_popi {a x : Ex} (iha : SndE Γ B c a) (ihx : SndE Γ B c x) : SndE Γ B c (.popi a x) := by
  intro S k Z X g
  refine ⟨fun e h => ?_, fun es h => (by cases h), fun _ _ h => (by cases h)⟩
  obtain ⟨o, apos, y, cpos, rfl, h2, h3, h4, h5, h6⟩ := fMt1_inv (show fMt1 "pop" e (okE B a S) (okE B x S) = true from h)
  have p1 := ((iha S k Z X g).1 _ h5).1
  have p2 := ((ihx S k Z X g).1 _ h6).1
  have pa : PA X [y] (tCons (tI Γ Z (ev c x)) tNil) := pa_cons p2 pa_nil (star_of h4 _ _)
  have e2 : ev c (.popi a x) = fun ν => (do let w ← ev c a ν; let _ ← chkL w; let i ← ev c x ν; popiW w i) := by funext ν; simp [ev]
  refine both rfl (PE.imp (pe_bm PySem.F.plainAttrs_list PySem.F.slot_list_pop PySem.F.type_list_pop mt_popAt p1 pa (base_of h2 _ _) (few1 h4) h3 (star_of h4 _ _) rfl) fun σ H Q t => ?_)
  rw [e2] at t
  obtain ⟨ν, η, ρ, G, S', T, t⟩ := t
  refine ⟨ν, η, ρ, G, S', T, Fin.bind t _ fun w ρ1 G1 η1 H1 S1 E1 t1 v rv => ?_⟩
  obtain ⟨n, ws, rfl, e3, t2⟩ := chkL_ok t1
  obtain ⟨p, vs, rfl, hp, hl, hH, rs⟩ := own_lst S1 e3 rv
  refine ⟨.inl ⟨rfl, vs, .inl (.inl hH)⟩, ν, η1, ρ1, G1, S1, T.mono E1.same E1.rho, Fin.bind t2 _ fun w2 ρ2 G2 η2 H2 S2 E2 t3 u ru => ?_⟩
  obtain ⟨n2, ws2, j, m, x2, e0, rfl, e4, e5, e6, hb, t4⟩ := popiW_ok t3
  cases e0
  cases ru
  obtain ⟨p2, vs2, e7, hp2, hl2, hH2, rs2⟩ := own_lst S2 e4 (v := .ref p) ⟨p, E2.rho _ _ hp, rfl⟩
  cases e7
  obtain ⟨S3, E3⟩ := S2.put hl2 hp2 (rs2.eraseIdx m)
  obtain ⟨y2, hy, ry⟩ := RepWs.get rs2 e6
  have hs : seqIndex? j vs2.length = some m := by rw [rs2.length]; exact (ixN_seq e5).1
  exact ⟨p, vs2, j, m, y2, rfl, rfl, hH2, hb.1, hb.2, hs, hy, t4 _ _ _ S3 E3 _ ry⟩

/-! ### own dicts -/
theorem RepKs.get {G : Hp} {ρ : Rho} {k : D} {key : Key} (hk : keyK k = some key) : ∀ {kvs : List (D × W)} {ks : List (Key × V)}, RepKs Γ G ρ kvs ks → ∀ {x : W}, getK kvs k = some x → ∃ v, valV ks key = some v ∧ RepW Γ G ρ x v
  | _, _, .nil, x, e => by cases e
  | (k0, w) :: r, (key0, v) :: rs, .cons h0 hx t, x, e => by
    by_cases q : k0 = k
    · subst q
      rw [hk] at h0; cases h0
      have e2 : getK ((k0, w) :: r) k0 = some w := by simp [getK]
      rw [e2] at e; cases e
      exact ⟨v, valV_pos rfl, hx⟩
    · have e2 : ¬ key0 = key := fun z => q (keyK_inj h0 (z ▸ hk))
      have e3 : getK ((k0, w) :: r) k = getK r k := by simp [getK, List.find?_cons, q]
      rw [e3] at e
      rw [valV_neg e2]
      exact RepKs.get hk t e
theorem RepKs.any {G : Hp} {ρ : Rho} {k : D} {key : Key} (hk : keyK k = some key) : ∀ {kvs : List (D × W)} {ks : List (Key × V)}, RepKs Γ G ρ kvs ks → (ks.any fun kv => decide (kv.1 = key)) = kvs.any fun p => decide (p.1 = k)
  | _, _, .nil => rfl
  | (k0, w) :: r, (key0, v) :: rs, .cons h0 _ t => by
    rw [List.any_cons, List.any_cons, RepKs.any hk t]
    congr 1
    by_cases q : k0 = k
    · subst q; rw [hk] at h0; cases h0; simp
    · have e2 : ¬ key0 = key := fun z => q (keyK_inj h0 (z ▸ hk))
      simp [q, e2]
theorem RepKs.append {G : Hp} {ρ : Rho} : ∀ {a b : List (D × W)} {x y : List (Key × V)}, RepKs Γ G ρ a x → RepKs Γ G ρ b y → RepKs Γ G ρ (a ++ b) (x ++ y)
  | _, _, _, _, .nil, s => s
  | _, _, _, _, .cons h0 h t, s => .cons h0 h (RepKs.append t s)
theorem RepKs.length {G : Hp} {ρ : Rho} : ∀ {a : List (D × W)} {x : List (Key × V)}, RepKs Γ G ρ a x → x.length = a.length
  | _, _, .nil => rfl
  | _, _, .cons _ _ t => by simp [RepKs.length t]
theorem RepKs.repl {G : Hp} {ρ : Rho} {k : D} {key : Key} {w : W} {v : V} (hk : keyK k = some key) (rw_ : RepW Γ G ρ w v) : ∀ {kvs : List (D × W)} {ks : List (Key × V)}, RepKs Γ G ρ kvs ks →
    RepKs Γ G ρ (kvs.map fun p => if p.1 = k then (p.1, w) else p) (ks.map fun kv => if kv.1 = key then (kv.1, v) else kv)
  | _, _, .nil => .nil
  | (k0, w0) :: r, (key0, v0) :: rs, .cons h0 hx t => by
    rw [List.map_cons, List.map_cons]
    by_cases q : k0 = k
    · have e : key0 = key := by subst q; rw [hk] at h0; cases h0; rfl
      simp only [q, e, if_true]
      exact .cons hk rw_ (RepKs.repl hk rw_ t)
    · have e2 : ¬ key0 = key := fun z => q (keyK_inj h0 (z ▸ hk))
      simp only [q, e2, if_false]
      exact .cons h0 hx (RepKs.repl hk rw_ t)
theorem RepKs.set {G : Hp} {ρ : Rho} {k : D} {key : Key} {w : W} {v : V} (hk : keyK k = some key) (rw_ : RepW Γ G ρ w v) {kvs : List (D × W)} {ks : List (Key × V)} (r : RepKs Γ G ρ kvs ks) : RepKs Γ G ρ (setK kvs k w) (putK ks key v) := by
  unfold setK putK
  rw [r.any hk]
  split
  · exact r.repl hk rw_
  · exact r.append (.cons hk rw_ .nil)
theorem kvOf {G : Hp} {ρ : Rho} {k : D} {key : Key} {v : V} (hk : keyK k = some key) (r : RepW Γ G ρ (.d k) v) : v = kV key := by
  have r' : Rep Γ G k v := r
  cases k <;> first | (cases hk; done) | skip
  · cases hk; cases r'; rfl
  · cases hk; cases r'; rfl
theorem dgetW_ok {w kw : W} {Rp : Hp → Rho → W → Hp → Prop} {σ : L2.St} {H0 : Hp} {ρ0 : Rho} {G0 : Hp} {η0 : Hv} (h : Fin Γ Z Rp σ ρ0 G0 η0 H0 (dgetW w kw η)) : ∃ n kvs kd key x, w = .ref n ∧ kw = .d kd ∧ η[n]? = some (.dct kvs) ∧ keyK kd = some key ∧ getK kvs kd = some x ∧ Fin Γ Z Rp σ ρ0 G0 η0 H0 (.ok x η) := by
  unfold dgetW at h
  cases w with
  | d x => exact Fin.badE h
  | clo l cs => exact Fin.badE h
  | ref n =>
    cases kw with
    | ref m => exact Fin.badE h
    | clo l cs => exact Fin.badE h
    | d kd =>
      simp only at h
      cases e : η[n]? with
      | none => rw [e] at h; exact Fin.badE h
      | some o =>
        rw [e] at h
        cases o with
        | dct kvs =>
          simp only at h
          cases e2 : keyK kd with
          | none => rw [e2] at h; exact Fin.badE h
          | some key =>
            rw [e2] at h
            simp only [Option.isSome_some, if_true] at h
            cases e3 : getK kvs kd with
            | none => rw [e3] at h; exact Fin.badE h
            | some x => rw [e3] at h; exact ⟨n, kvs, kd, key, x, rfl, rfl, e, e2, e3, h⟩
        | dead => exact Fin.badE h
        | lst _ => exact Fin.badE h
        | cel _ => exact Fin.badE h
theorem snd_dget {a b : Ex} (iha : SndE Γ B c a) (ihb : SndE Γ B c b) : SndE Γ B c (.dget a b) := by
  intro S k Z X g
  refine ⟨fun e h => ?_, fun es h => (by cases h), fun _ _ h => (by cases h)⟩
  obtain ⟨o, i, pos, rfl, h1, h2, h3⟩ := fItem2_inv (show fItem2 e (okE B a S) (okE B b S) = true from h)
  have p1 := ((iha S k Z X g).1 _ h2).1
  have p2 := ((ihb S k Z X g).1 _ h3).1
  have e2 : ev c (.dget a b) = fun ν => (do let w ← ev c a ν; let k ← ev c b ν; dgetW w k) := by funext ν; simp [ev]
  refine both rfl (PE.imp (pe_dget (by have := g.room.un; omega) p1 p2 (plainIx_of h1)) fun σ H Q t => ?_)
  rw [e2] at t
  obtain ⟨ν, η, ρ, G, S', T, t⟩ := t
  refine ⟨ν, η, ρ, G, S', T, Fin.bind t _ fun w ρ1 G1 η1 H1 S1 E1 t1 v rv => ?_⟩
  refine ⟨ν, η1, ρ1, G1, S1, T.mono E1.same E1.rho, Fin.bind t1 _ fun w2 ρ2 G2 η2 H2 S2 E2 t2 u ru => ?_⟩
  obtain ⟨n, kvs, kd, key, x, rfl, rfl, e3, e4, e5, t3⟩ := dgetW_ok t2
  obtain ⟨p, ks, rfl, hp, hl, hH, rk⟩ := own_dct S2 e3 (rv.mono E2.same E2.rho)
  obtain ⟨y, h6, h7⟩ := rk.get e4 e5
  have ek := kvOf e4 ru
  subst ek
  exact ⟨p, y, rfl, .inl ⟨ks, key, .inl hH, rfl, h6.symm⟩, t3 ρ2 G2 H2 S2 (Ext.refl _ _ _ _) y h7⟩
end
end Ip

set_option Elab.async false
set_option linter.all false
set_option maxRecDepth 100000
set_option maxHeartbeats 400000
/-! IpDct2: displays of own dicts. -/
namespace Ip
open PySem PySem.Spec PyProof.Rows L2
section
variable {Γ : Env} {B : Tb} {c : Cfg} {S : SC} {k : Nat} {Z : WX} {X : Cx} {ρ : Rho} {G H : Hp} {η : Hv}
theorem Fin.bindB {α β : Type} {Rp : Hp → Rho → β → Hp → Prop} {σ : L2.St} {ρ0 : Rho} {G0 : Hp} {η0 : Hv} {H0 : Hp} {m : M α} {kk : α → M β} (E0 : Ext ρ0 G0 η0 H0 ρ G η H) (h : Fin Γ Z Rp σ ρ0 G0 η0 H0 ((m >>= kk) η)) :
    ∀ (Rq : Hp → Rho → α → Hp → Prop), (∀ w ρ1 G1 η1 H1, Sim Γ ρ1 G1 η1 H1 → Ext ρ G η H ρ1 G1 η1 H1 → Fin Γ Z Rp σ ρ0 G0 η0 H0 (kk w η1) → Rq G1 ρ1 w H1) → Fin Γ Z Rq σ ρ G η H (m η) := by
  intro Rq hq
  rw [M.bind_ap] at h
  cases e : m η with
  | ok w η1 =>
    rw [e] at h
    exact fun ρ1 G1 H1 S1 E1 => hq w ρ1 G1 η1 H1 S1 E1 h
  | exc x η1 =>
    rw [e] at h
    exact fun cls d ρ' G' H' S' E' r => h cls d ρ' G' H' S' (E0.trans E') r
  | bad =>
    rw [e] at h
    exact h
/-- a loose object becomes the run's own -/
theorem Sim.adopt {D : Addr} (Sm : Sim Γ ρ G η H) (l : Loose G η ρ D) (hq : ∀ u, H D = some u → Cont u) {vo : VO} {ho : HO} (r : RepC Γ G ρ vo ho) :
    Sim Γ (updR ρ η.length D) G (η ++ [vo]) (upd H D ho) ∧ ∀ {ρ0 : Rho} {G0 : Hp} {η0 : Hv} {H0 : Hp}, H0 D = none → Ext ρ0 G0 η0 H0 ρ G η H → Ext ρ0 G0 η0 H0 (updR ρ η.length D) G (η ++ [vo]) (upd H D ho) := by
  have hn : ρ η.length = none := Sm.new _ (Nat.le_refl _)
  have er := updR_le (p := D) hn
  have self : updR ρ η.length D η.length = some D := by unfold updR; rw [if_pos rfl]
  have cases_ : ∀ n o, (η ++ [vo])[n]? = some o → η[n]? = some o ∨ (n = η.length ∧ o = vo) := fun n o e => by
    by_cases h : n < η.length
    · rw [List.getElem?_append_left h] at e; exact .inl e
    · rw [List.getElem?_append_right (by omega)] at e
      have : n - η.length = 0 := by
        cases q : n - η.length with
        | zero => rfl
        | succ k => rw [q] at e; simp at e
      rw [this] at e
      simp at e
      exact .inr ⟨by omega, e.symm⟩
  have lv : ∀ n, live (η ++ [vo]) n → live η n ∨ n = η.length := fun n ⟨o, h1, h2⟩ => by
    rcases cases_ n o h1 with h | ⟨h, _⟩
    · exact .inl ⟨o, h, h2⟩
    · exact .inr h
  have rold : ∀ n a, live η n → updR ρ η.length D n = some a → ρ n = some a := fun n a ⟨o, h1, _⟩ h => by
    unfold updR at h
    have : n < η.length := by
      obtain ⟨h2, _⟩ := List.getElem?_eq_some_iff.mp h1
      exact h2
    rw [if_neg (by omega)] at h
    exact h
  have S1 := Sm.loose l ho hq
  refine ⟨⟨S1.same, fun n o h => ?_, fun n m a h1 h2 h3 h4 => ?_, fun n hn' => ?_, S1.tab, S1.ntb⟩, fun {ρ0 G0 η0 H0} hD E => ⟨fun n a h => er n a (E.rho n a h), E.same, fun a u h no nt => ?_, fun a ps h => ?_, E.fresh, fun a h => ?_⟩⟩
  · rcases cases_ n o h with h | ⟨rfl, rfl⟩
    · by_cases hd : o = .dead
      · subst hd; trivial
      · refine (S1.obj n o h).move er (Same.refl G) (fun a ha => ?_) fun a u _ hu => hu
        obtain ⟨b, h4, h6, _⟩ := (S1.obj n o h).at hd
        rw [ha] at h4; cases h4
        exact h6
    · exact (r.mono (Same.refl G) er).rep self l.1 upd_same
  · rcases lv n h1 with h1 | rfl <;> rcases lv m h2 with h2 | rfl
    · exact Sm.inj n m a h1 h2 (rold n a h1 h3) (rold m a h2 h4)
    · rw [self] at h4; cases h4
      exact absurd ⟨n, h1, rold n _ h1 h3⟩ l.2
    · rw [self] at h3; cases h3
      exact absurd ⟨m, h2, rold m _ h2 h4⟩ l.2
    · rfl
  · rw [List.length_append] at hn'
    simp only [List.length_singleton] at hn'
    unfold updR
    rw [if_neg (by omega)]
    exact Sm.new n (by omega)
  · have : a ≠ D := ne_of_none h hD
    rw [upd_ne this]; exact E.kept a u h no nt
  · have : a ≠ D := ne_of_none h hD
    obtain ⟨qs, q⟩ := E.tbl a ps h
    exact ⟨qs, by rw [upd_ne this]; exact q⟩
  · obtain ⟨n, h1, h2⟩ := h
    rcases lv n h1 with h1 | rfl
    · exact E.own a ⟨n, h1, rold n a h1 h2⟩
    · rw [self] at h2; cases h2; exact .inr hD
/-- the pairs' readings -/
def trsOf (Γ : Env) (c : Cfg) (Z : WX) : Ex → List (TE × TE)
  | .cons a (.cons b r) => (tI Γ Z (ev c a), tI Γ Z (ev c b)) :: trsOf Γ c Z r
  | _ => []
def flatV2 : List (V × V) → List V
  | [] => []
  | (x, y) :: r => x :: y :: flatV2 r
theorem pps_ok {pos : Pos} : ∀ {x : Ex} {keys : List (Option Expr)} {vals : List Expr}, keys.all (·.isSome) = true → keys.length = vals.length → AllE Γ c Z X x (inter keys vals) → PPs X pos keys vals (trsOf Γ c Z x)
  | x, [], [], _, _, h => by
    have := h.nilOf
    subst this
    exact pps_nil
  | x, some kx :: keys, v :: vals, ha, hl, h => by
    simp only [List.all_cons, Bool.and_eq_true] at ha
    cases x <;> first | exact h.elim | skip
    rename_i a r
    obtain ⟨_, h1, h2⟩ := h
    cases r <;> first | exact h2.elim | skip
    rename_i b r
    obtain ⟨_, h3, h4⟩ := h2
    exact pps_cons h1 h3 (pps_ok ha.2 (by simpa using hl) h4)
  | x, none :: keys, _, ha, _, _ => by simp at ha
  | x, [], _ :: _, _, hl, _ => by simp at hl
  | x, _ :: _, [], _, hl, _ => by simp at hl
theorem pairs_read {σ : L2.St} {β : Type} {Rp : Hp → Rho → β → Hp → Prop} {ρ0 : Rho} {G0 : Hp} {η0 : Hv} {H0 : Hp} {ν : List (Option W)} : ∀ {x : Ex} {es : List Expr} (kk : List W → M β) {ρ : Rho} {G H : Hp} {η : Hv}, AllE Γ c Z X x es → es.length % 2 = 0 → Sim Γ ρ G η H → Slots Γ G ρ ν σ → Ext ρ0 G0 η0 H0 ρ G η H → Fin Γ Z Rp σ ρ0 G0 η0 H0 ((evl c x ν >>= kk) η) →
    ∀ {Q : List (V × V) → Hp → Prop}, (∀ ps ws ρ2 G2 η2 H2, Sim Γ ρ2 G2 η2 H2 → Ext ρ G η H ρ2 G2 η2 H2 → RepWs Γ G2 ρ2 ws (flatV2 ps) → Fin Γ Z Rp σ ρ0 G0 η0 H0 (kk ws η2) → Q ps H2) → tPairs (trsOf Γ c Z x) σ H Q
  | x, [], kk, ρ, G, H, η, h, _, S1, T, E0, t, Q, q => by
    have := h.nilOf
    subst this
    have e : (evl c .nil ν >>= kk) η = kk [] η := by simp [evl]
    rw [e] at t
    exact q [] [] ρ G η H S1 (Ext.refl _ _ _ _) .nil t
  | x, [_], kk, ρ, G, H, η, h, hl, S1, T, E0, t, Q, q => by simp at hl
  | x, e1 :: e2 :: es, kk, ρ, G, H, η, h, hl, S1, T, E0, t, Q, q => by
    cases x <;> first | exact h.elim | skip
    rename_i a r
    obtain ⟨_, h1, h2⟩ := h
    cases r <;> first | exact h2.elim | skip
    rename_i b r
    obtain ⟨_, h3, h4⟩ := h2
    have ee : (evl c (.cons a (.cons b r)) ν >>= kk) η = (ev c a ν >>= fun w1 => ev c b ν >>= fun w2 => evl c r ν >>= fun ws => kk (w1 :: w2 :: ws)) η := by simp [evl]
    rw [ee] at t
    refine ⟨ν, η, ρ, G, S1, T, Fin.bindB E0 t _ fun w1 ρ1 G1 η1 H1 S2 E1 t1 x1 r1 => ?_⟩
    have T1 := T.mono E1.same E1.rho
    refine ⟨ν, η1, ρ1, G1, S2, T1, Fin.bindB (E0.trans E1) t1 _ fun w2 ρ2 G2 η2 H2 S3 E2 t2 x2 r2 => ?_⟩
    have T2 := T1.mono E2.same E2.rho
    refine pairs_read (fun ws => kk (w1 :: w2 :: ws)) h4 (by simp at hl; omega) S3 T2 ((E0.trans E1).trans E2) t2 fun ps ws ρ3 G3 η3 H3 S4 E3 rr t3 => ?_
    have E23 := E2.trans E3
    exact q ((x1, x2) :: ps) (w1 :: w2 :: ws) ρ3 G3 η3 H3 S4 (E1.trans E23) (.cons (r1.mono E23.same E23.rho) (.cons (r2.mono E3.same E3.rho) rr)) t3
theorem pairs_rep {G : Hp} {ρ : Rho} : ∀ {ps : List (V × V)} {ws : List W} {kvs : List (D × W)}, RepWs Γ G ρ ws (flatV2 ps) → pairsW ws = some kvs → ∃ ks : List (Key × V), ps = ks.map (fun kv => (kV kv.1, kv.2)) ∧ RepKs Γ G ρ kvs ks
  | [], _, kvs, .nil, e => by cases e; exact ⟨[], rfl, .nil⟩
  | (x, y) :: ps, _, kvs, .cons (w := w1) h1 (.cons (w := w2) h2 r), e => by
    cases w1 with
    | ref n => cases e
    | clo l cs => cases e
    | d kd =>
      simp only [pairsW] at e
      cases hk : keyK kd with
      | none => rw [hk] at e; cases e
      | some key =>
        rw [hk] at e
        simp only [Option.isSome_some, if_true] at e
        rename_i ws
        cases q : pairsW ws with
        | none => rw [q] at e; cases e
        | some kr =>
          rw [q] at e
          cases e
          obtain ⟨ks, e1, e2⟩ := pairs_rep r q
          exact ⟨(key, y) :: ks, by rw [List.map_cons, ← e1, kvOf hk h1], .cons hk h2 e2⟩
theorem merge_nodup {G : Hp} {ρ : Rho} : ∀ {kvs : List (D × W)} {ks acc : List (Key × V)}, RepKs Γ G ρ kvs ks → ndupK kvs = true → (∀ p ∈ kvs, ∀ key, keyK p.1 = some key → (acc.any fun kv => decide (kv.1 = key)) = false) → mergeK acc ks = acc ++ ks
  | _, _, acc, .nil, _, _ => by simp [mergeK]
  | (k0, w) :: r, (key0, v) :: rs, acc, .cons h0 hw t, hn, hd => by
    simp only [ndupK, Bool.and_eq_true, Bool.not_eq_true'] at hn
    have e1 : putK acc key0 v = acc ++ [(key0, v)] := by
      unfold putK
      rw [hd (k0, w) (by simp) key0 h0]
      rfl
    have e2 : mergeK acc ((key0, v) :: rs) = mergeK (putK acc key0 v) rs := rfl
    rw [e2, e1, merge_nodup t hn.2 fun p hp key hk => ?_]
    · simp
    · rw [List.any_append, hd p (by simp [hp]) key hk]
      simp only [List.any_cons, List.any_nil, Bool.or_false, Bool.false_or, decide_eq_false_iff_not]
      intro e
      subst e
      have e3 := keyK_inj h0 hk
      have := List.any_eq_false.mp hn.1 p hp
      simp [e3] at this
theorem pairsW_even : ∀ {ws : List W} {kvs : List (D × W)}, pairsW ws = some kvs → ws.length = 2 * kvs.length
  | [], kvs, e => by cases e; rfl
  | .d kd :: w :: r, kvs, e => by
    simp only [pairsW] at e
    split at e
    · cases q : pairsW r with
      | none => rw [q] at e; cases e
      | some kr =>
        rw [q] at e
        cases e
        have := pairsW_even q
        simp; omega
    · cases e
  | [.d _], _, e => by cases e
  | .ref _ :: _, _, e => by cases e
  | .clo _ _ :: _, _, e => by cases e
theorem inter_len : ∀ {keys : List (Option Expr)} {vals : List Expr}, keys.all (·.isSome) = true → keys.length = vals.length → (inter keys vals).length = 2 * keys.length
  | [], [], _, _ => rfl
  | some _ :: ks, v :: vs, ha, hl => by
    simp only [List.all_cons, Bool.and_eq_true] at ha
    simp only [inter, List.length_cons]
    rw [inter_len ha.2 (by simpa using hl)]
    omega
  | none :: _, _, ha, _ => by simp at ha
  | [], _ :: _, _, hl => by simp at hl
  | _ :: _, [], _, hl => by simp at hl
theorem mkD_ok {ws : List W} {Rp : Hp → Rho → W → Hp → Prop} {σ : L2.St} {H0 : Hp} {ρ0 : Rho} {G0 : Hp} {η0 : Hv} (h : Fin Γ Z Rp σ ρ0 G0 η0 H0 (mkD ws η)) : ∃ kvs, pairsW ws = some kvs ∧ ndupK kvs = true ∧ kvs.length ≤ 15 ∧ Fin Γ Z Rp σ ρ0 G0 η0 H0 (.ok (.ref η.length) (η ++ [.dct kvs])) := by
  unfold mkD at h
  cases e : pairsW ws with
  | none => rw [e] at h; exact Fin.badE h
  | some kvs =>
    rw [e] at h
    simp only at h
    by_cases hc : (ndupK kvs && decide (kvs.length ≤ 15)) = true
    · rw [if_pos hc] at h
      rw [Bool.and_eq_true, decide_eq_true_eq] at hc
      exact ⟨kvs, rfl, hc.1, hc.2, h⟩
    · rw [if_neg hc] at h
      exact Fin.badE h
theorem snd_ndct {es : Ex} (ih : SndE Γ B c es) : SndE Γ B c (.ndct es) := by
  intro S k Z X g
  refine ⟨fun e h => ?_, fun es h => (by cases h), fun _ _ h => (by cases h)⟩
  obtain ⟨keys, vals, pos, rfl, h1, h2, h3, h4⟩ := fDct_inv (show fDct e (okL B es S) = true from h)
  have al := (ih S k Z X g).2.1 _ h4
  have e2 : ev c (.ndct es) = fun ν => (evl c es ν >>= mkD) := by funext ν; simp [ev]
  refine both rfl ?_
  cases keys with
  | nil =>
    cases vals with
    | cons _ _ => simp at h2
    | nil =>
      have := al.nilOf
      subst this
      refine PE.imp pe_dnewK fun σ H Q t => ?_
      rw [e2] at t
      obtain ⟨ν, η, ρ, G, S', T, t⟩ := t
      have t : Fin Γ Z (pW Γ Q) σ ρ G η H ((evl c .nil ν >>= mkD) η) := t
      have e : (evl c .nil ν >>= mkD) η = mkD [] η := by simp [evl]
      rw [e] at t
      obtain ⟨kvs, e3, e4, e5, t2⟩ := mkD_ok t
      cases e3
      intro p hp
      obtain ⟨S2, E2⟩ := S'.layO (ρ := ρ) hp (RepC.dct (Γ := Γ) (G := G) (ρ := ρ) .nil)
      exact t2 _ _ _ S2 E2 _ ⟨p, by unfold updR; rw [if_pos rfl], rfl⟩
  | cons k0 keys =>
    refine PE.imp (pe_disp (pps_ok h1 h2 al) h1 h2 (by simp) h3) fun σ H Q t => ?_
    rw [e2] at t
    obtain ⟨ν, η, ρ, G, S', T, t⟩ := t
    intro p hp
    have l0 : Loose G η ρ p := ⟨S'.gnone hp, S'.notOwn hp⟩
    refine pairs_read mkD al (by rw [inter_len h1 h2]; omega) (S'.loose l0 (.dK []) (fun u z => by rw [hp] at z; cases z)) T ((Ext.refl ρ G η H).loose hp _) t fun ps ws ρ2 G2 η2 H2 S2 E2 rr t2 => ?_
    obtain ⟨l2, hp2⟩ := l0.ext upd_same E2
    obtain ⟨kvs, e3, e4, e5, t3⟩ := mkD_ok t2
    obtain ⟨ks, e6, rk⟩ := pairs_rep rr e3
    refine ⟨hp2, ks, e6, by rw [rk.length]; exact e5, ?_⟩
    rw [merge_nodup rk e4 fun _ _ _ _ => rfl, List.nil_append]
    have E02 := ((Ext.refl ρ G η H).loose hp (.dK [])).trans E2
    have S3 := S2.adopt l2 (fun u z => by rw [hp2] at z; cases z; exact trivial) (RepC.dct rk)
    exact t3 _ _ _ S3.1 (S3.2 hp E02) _ ⟨p, by unfold updR; rw [if_pos rfl], rfl⟩
end
end Ip

set_option Elab.async false
set_option linter.all false
set_option maxRecDepth 100000
set_option maxHeartbeats 400000
/-! IpIt2: zip, enumerate. -/
namespace Ip
open PySem PySem.Spec PyProof.Rows L2 RZ
section
variable {Γ : Env} {c : Cfg} {S : SC} {k : Nat} {Z : WX} {X : Cx} {ρ : Rho} {G H : Hp} {η : Hv}
theorem pair_rep {G H : Hp} {T : Addr} {x y : V} {d e : D} (hs : Same G H) (hT : H T = none) (r1 : Rep Γ G d x) (r2 : Rep Γ G e y) : Rep Γ (grow G H (upd H T (.tup [x, y]))) (pairD d e) (.ref T) :=
  .tup (SqT.of (grow_up hT)) (.cons (Rep.mono (grow_same hs) r1) (.cons (Rep.mono (grow_same hs) r2) .nil))
theorem wlk_zipL {K : PySem.W.Frag} {a b : Addr} {xs ys : List D} : Wlk Γ (CS Γ [.ref a, .ref b] (.ds [.lst xs, .lst ys])) ((List.zipWith pairD xs ys).map W.d) (Itz K a b) := by
  have get : ∀ {G H : Hp}, Same G H → RepAs Γ G H [.lst xs, .lst ys] [.ref a, .ref b] → ∃ vs us, SqL K H a vs ∧ RepL Γ G xs vs ∧ SqL K H b us ∧ RepL Γ G ys us := fun {G H} hs r => by
    obtain ⟨v, u, e, r1, r2⟩ := r.two
    cases e
    obtain ⟨p, vs, e2, h1, h2⟩ := r1.isLst hs
    obtain ⟨q, us, e3, h3, h4⟩ := r2.isLst hs
    cases e2; cases e3
    exact ⟨vs, us, .inl h1, h2, .inl h3, h4⟩
  have hl : ((List.zipWith pairD xs ys).map W.d).length = min xs.length ys.length := by simp
  refine ⟨fun i G ρ H hi hs r => ?_, fun G ρ H hs r => ?_, fun i G ρ H x H' hi hs r y => ?_⟩
  · obtain ⟨vs, us, h1, h2, h3, h4⟩ := get hs r
    have l1 := h2.length
    have l2 := h4.length
    rw [hl] at hi
    exact ⟨vs, us, vs[i]'(by omega), us[i]'(by omega), h1, h3, by simp [show i < vs.length by omega], by simp [show i < us.length by omega]⟩
  · obtain ⟨vs, us, h1, h2, h3, h4⟩ := get hs r
    refine ⟨vs, us, h1, h3, ?_⟩
    rw [hl, h2.length, h4.length]
    omega
  · obtain ⟨vs, us, h1, h2, h3, h4⟩ := get hs r
    rw [hl] at hi
    obtain ⟨T, x1, y1, rfl, hT, rfl, q1, q2⟩ := y
    obtain ⟨v, e1, r1⟩ := h2.get (i := i) (x := xs[i]'(by omega)) (by simp [show i < xs.length by omega])
    obtain ⟨u, e2, r2⟩ := h4.get (i := i) (x := ys[i]'(by omega)) (by simp [show i < ys.length by omega])
    rw [q1 vs h1] at e1; cases e1
    rw [q2 us h3] at e2; cases e2
    refine ⟨.d (pairD (xs[i]'(by omega)) (ys[i]'(by omega))), ?_, same_upd hT, pair_rep hs hT r1 r2⟩
    rw [List.getElem?_map, List.getElem?_zipWith]
    simp [show i < xs.length by omega, show i < ys.length by omega]
theorem wlk_zipT {K : PySem.W.Frag} {a b : Addr} {xs ys : List D} (hK : K = Γ.K) : Wlk Γ (CS Γ [.ref a, .ref b] (.ds [.tup xs, .tup ys])) ((List.zipWith pairD xs ys).map W.d) (ItzT K a b) := by
  have get : ∀ {G H : Hp}, Same G H → RepAs Γ G H [.tup xs, .tup ys] [.ref a, .ref b] → ∃ vs us, SqT K H a vs ∧ RepL Γ G xs vs ∧ SqT K H b us ∧ RepL Γ G ys us := fun {G H} hs r => by
    obtain ⟨v, u, e, r1, r2⟩ := r.two
    cases e
    obtain ⟨p, vs, e2, h1, h2⟩ := r1.tup
    obtain ⟨q, us, e3, h3, h4⟩ := r2.tup
    cases e2; cases e3
    exact ⟨vs, us, by rw [hK]; exact Same.sqT hs h1, h2, by rw [hK]; exact Same.sqT hs h3, h4⟩
  have hl : ((List.zipWith pairD xs ys).map W.d).length = min xs.length ys.length := by simp
  refine ⟨fun i G ρ H hi hs r => ?_, fun G ρ H hs r => ?_, fun i G ρ H x H' hi hs r y => ?_⟩
  · obtain ⟨vs, us, h1, h2, h3, h4⟩ := get hs r
    have l1 := h2.length
    have l2 := h4.length
    rw [hl] at hi
    exact ⟨vs, us, vs[i]'(by omega), us[i]'(by omega), h1, h3, by simp [show i < vs.length by omega], by simp [show i < us.length by omega]⟩
  · obtain ⟨vs, us, h1, h2, h3, h4⟩ := get hs r
    refine ⟨vs, us, h1, h3, ?_⟩
    rw [hl, h2.length, h4.length]
    omega
  · obtain ⟨vs, us, h1, h2, h3, h4⟩ := get hs r
    rw [hl] at hi
    obtain ⟨T, x1, y1, rfl, hT, rfl, q1, q2⟩ := y
    obtain ⟨v, e1, r1⟩ := h2.get (i := i) (x := xs[i]'(by omega)) (by simp [show i < xs.length by omega])
    obtain ⟨u, e2, r2⟩ := h4.get (i := i) (x := ys[i]'(by omega)) (by simp [show i < ys.length by omega])
    rw [q1 vs h1] at e1; cases e1
    rw [q2 us h3] at e2; cases e2
    refine ⟨.d (pairD (xs[i]'(by omega)) (ys[i]'(by omega))), ?_, same_upd hT, pair_rep hs hT r1 r2⟩
    rw [List.getElem?_map, List.getElem?_zipWith]
    simp [show i < xs.length by omega, show i < ys.length by omega]
theorem wlk_enum {K : PySem.W.Frag} {a : Addr} {xs : List D} : Wlk Γ (CS Γ [.ref a] (.ds [.lst xs])) ((xs.mapIdx fun i x => pairD (.int (i : Nat)) x).map W.d) (Ite K a) := by
  have get : ∀ {G H : Hp}, Same G H → RepAs Γ G H [.lst xs] [.ref a] → ∃ vs, SqL K H a vs ∧ RepL Γ G xs vs := fun {G H} hs r => by
    obtain ⟨v, e, r1⟩ := r.one
    cases e
    obtain ⟨p, vs, e2, h1, h2⟩ := r1.isLst hs
    cases e2
    exact ⟨vs, .inl h1, h2⟩
  have hl : ((xs.mapIdx fun i x => pairD (.int (i : Nat)) x).map W.d).length = xs.length := by simp
  refine ⟨fun i G ρ H hi hs r => ?_, fun G ρ H hs r => ?_, fun i G ρ H x H' hi hs r y => ?_⟩
  · obtain ⟨vs, h1, h2⟩ := get hs r
    have l1 := h2.length
    rw [hl] at hi
    exact ⟨vs, vs[i]'(by omega), h1, by simp [show i < vs.length by omega]⟩
  · obtain ⟨vs, h1, h2⟩ := get hs r
    exact ⟨vs, h1, by rw [hl, h2.length]; exact Nat.le_refl _⟩
  · obtain ⟨vs, h1, h2⟩ := get hs r
    rw [hl] at hi
    obtain ⟨T, x1, rfl, hT, rfl, q1⟩ := y
    obtain ⟨v, e1, r1⟩ := h2.get (i := i) (x := xs[i]) (by simp [hi])
    rw [q1 vs h1] at e1; cases e1
    refine ⟨.d (pairD (.int (i : Nat)) xs[i]), ?_, same_upd hT, pair_rep hs hT (.int _) r1⟩
    simp [hi]
/-- what the arguments read as -/
theorem data_snap {ik : Ik} (hk : ik ≠ .raw) {ws : List W} {vs : List V} {sn : Snap} {η2 : Hv} (S2 : Sim Γ ρ G η2 H) (rs : RepWs Γ G ρ ws vs) (e1 : snap ik ws η2 = some sn) : ∃ ds, sn = .ds ds ∧ RepAs Γ G H ds vs := by
  have e1' : (rdWs η2 ws).map Snap.ds = some sn := by
    cases ik <;> first | exact absurd rfl hk | exact e1
  cases e3 : rdWs η2 ws with
  | none => rw [e3] at e1'; cases e1'
  | some ds =>
    rw [e3] at e1'
    cases e1'
    exact ⟨ds, rfl, RepWs.read S2 rs e3⟩
theorem pi_zipD {es : List Expr} {j : Nat} {tp p pos : Pos} {a b : Expr} {x : Ex} (g : Gd Γ c S k Z X) (hg : S.gl "zip" = true) (h : AllE Γ c Z X x [a, b]) : PI X (.Tuple es j tp) (.Call (.Name "zip" p) [a, b] [] pos) (tIt Γ Z .zip (evl c x)) := by
  have st := h.stars
  simp only [List.all_cons, Bool.and_eq_true] at st
  refine PI.imp (pi_zipA (g.gl hg) (g.blt (by decide +kernel)) (AllE.pa h) (star_of st.1 _ _) (noSplat (by simp [st.2.1]) _ _)) fun σ H R t => ?_
  obtain ⟨ν, η, ρ, G, S', T, t⟩ := t
  refine ⟨ν, η, ρ, G, S', T, (itM_ok t).imp fun G1 ρ1 ws H1 q vs rs => ?_⟩
  obtain ⟨η2, sn, its, S2, e1, e2, q⟩ := q
  have cs := snap_ok S2 rs e1
  obtain ⟨ds, rfl, ra⟩ := data_snap (by decide) S2 rs e1
  simp only [itS] at e2
  rcases ds with _ | ⟨d, _ | ⟨d2, _ | ⟨d3, ds⟩⟩⟩
  · simp [itD] at e2
  · simp [itD] at e2
  · obtain ⟨v, u, rfl, r1, r2⟩ := ra.two
    cases d <;> cases d2 <;> first | (simp [itD] at e2; done) | skip
    · cases e2
      obtain ⟨p, vs, rfl, h1, h2⟩ := r1.tup
      obtain ⟨p2, us, rfl, h3, h4⟩ := r2.tup
      exact ⟨p, p2, vs, us, rfl, .inr ⟨by rw [g.K]; exact Same.sqT S2.same h1, by rw [g.K]; exact Same.sqT S2.same h3, q _ rs cs _ (wlk_zipT g.K)⟩⟩
    · cases e2
      obtain ⟨p, vs, rfl, h1, h2⟩ := r1.isLst S2.same
      obtain ⟨p2, us, rfl, h3, h4⟩ := r2.isLst S2.same
      exact ⟨p, p2, vs, us, rfl, .inl ⟨.inl h1, .inl h3, q _ rs cs _ wlk_zipL⟩⟩
  · simp [itD] at e2
theorem pi_enumD {es : List Expr} {j : Nat} {tp p pos : Pos} {a : Expr} {x : Ex} (g : Gd Γ c S k Z X) (hg : S.gl "enumerate" = true) (h : AllE Γ c Z X x [a]) : PI X (.Tuple es j tp) (.Call (.Name "enumerate" p) [a] [] pos) (tIt Γ Z .enum (evl c x)) := by
  have st := h.stars
  simp only [List.all_cons, Bool.and_eq_true] at st
  refine PI.imp (pi_enum (g.gl hg) (g.blt (by decide +kernel)) (AllE.pa h) (star_of st.1 _ _)) fun σ H R t => ?_
  obtain ⟨ν, η, ρ, G, S', T, t⟩ := t
  refine ⟨ν, η, ρ, G, S', T, (itM_ok t).imp fun G1 ρ1 ws H1 q vs rs => ?_⟩
  obtain ⟨η2, sn, its, S2, e1, e2, q⟩ := q
  have cs := snap_ok S2 rs e1
  obtain ⟨ds, rfl, ra⟩ := data_snap (by decide) S2 rs e1
  simp only [itS] at e2
  rcases ds with _ | ⟨d, _ | ⟨d2, ds⟩⟩
  · simp [itD] at e2
  · obtain ⟨v, rfl, r1⟩ := ra.one
    cases d <;> first | (simp [itD] at e2; done) | skip
    cases e2
    obtain ⟨p, vs, rfl, h1, h2⟩ := r1.isLst S2.same
    exact ⟨p, vs, rfl, .inl h1, q _ rs cs _ wlk_enum⟩
  · simp [itD] at e2
end
end Ip

set_option Elab.async false
set_option linter.all false
set_option maxRecDepth 100000
set_option maxHeartbeats 400000
/-! IpSnd3: all expressions. -/
namespace Ip
open PySem PySem.Spec PyProof.Rows L2
section
variable {Γ : Env} {B : Tb} {c : Cfg} {S : SC} {k : Nat} {Z : WX} {X : Cx}
theorem isTup_inv {tg : Expr} (h : isTup tg = true) : ∃ es j p, tg = .Tuple es j p := by
  cases tg <;> first | (cases h; done) | exact ⟨_, _, _, rfl⟩
/-- an iterable -/
theorem it_ok (g : Gd Γ c S k Z X) {ik : Ik} {tg e : Expr} {it : Ex} (A : ∀ es, okL B it S es = true → AllE Γ c Z X it es) (h : fIt S ik tg e (okL B it S) = true) : PI X tg e (tIt Γ Z ik (evl c it)) ∧ ∀ x, foldedSetIterable e X.env x = pure x := by
  unfold fIt at h
  split at h
  · rw [Bool.and_eq_true] at h
    obtain ⟨a, rfl, p1⟩ := (A _ h.2).one
    exact ⟨pi_plain g p1, fun x => foldSet h.1 _ x⟩
  · rw [Bool.and_eq_true] at h
    obtain ⟨a, rfl, p1⟩ := (A _ h.2).one
    exact ⟨pi_raw g p1, fun x => foldSet h.1 _ x⟩
  · split at h
    · simp only [Bool.and_eq_true, decide_eq_true_eq, Bool.or_eq_true, beq_iff_eq] at h
      obtain ⟨⟨⟨rfl, h2⟩, h3⟩, h4⟩ := h
      exact ⟨pi_rng g h2 (A _ h4) h3, fun x => rfl⟩
    · cases h
  · split at h
    · simp only [Bool.and_eq_true, decide_eq_true_eq] at h
      obtain ⟨⟨⟨rfl, h2⟩, h3⟩, h4⟩ := h
      obtain ⟨es, j, p, rfl⟩ := isTup_inv h3
      exact ⟨pi_zipD g h2 (A _ h4), fun x => rfl⟩
    · cases h
  · split at h
    · simp only [Bool.and_eq_true, decide_eq_true_eq] at h
      obtain ⟨⟨⟨rfl, h2⟩, h3⟩, h4⟩ := h
      obtain ⟨es, j, p, rfl⟩ := isTup_inv h3
      exact ⟨pi_enumD g h2 (A _ h4), fun x => rfl⟩
    · cases h
  · cases h
theorem genR_of {r : Ex} {elt : Expr} {ifs : List Expr} (hl : ifs.length ≤ 1) (h : okG B r S elt ifs = true) : (∃ x, r = .yld x ∧ ifs = []) ∨ (∃ t x cd, r = .gif t (.yld x) ∧ ifs = [cd]) := by
  cases r <;> first | (cases h; done) | skip
  · rename_i t r
    cases ifs with
    | nil => cases h
    | cons cd ifs =>
      have h : (okE B t S cd && okG B r S elt ifs) = true := h
      rw [Bool.and_eq_true] at h
      cases ifs with
      | cons _ _ => simp at hl
      | nil =>
        have h2 := h.2
        cases r <;> first | (cases h2; done) | skip
        · exact .inr ⟨t, _, cd, rfl, rfl⟩
  · rename_i x
    cases ifs with
    | nil => exact .inl ⟨x, rfl, rfl⟩
    | cons _ _ => cases h
/-- the parts of a comprehension -/
theorem lc_parts (g : Gd Γ c S k Z X) {vs : List Nat} {ik : Ik} {pt : Pt} {it r : Ex} (ihit : SndE Γ B c it) (ihr : SndE Γ B c r) {e : Expr} (h : fLc S vs ik pt e (okL B it S) (okG B r) = true) :
    ∃ elt tg iter ifs scope pos tt te, e = .ListComp elt [⟨tg, iter, ifs, 0⟩] scope pos ∧ GenR Γ c r tt te ∧ (∀ i ∈ pt.vars, i ∈ vs) ∧ PI X tg iter (tIt Γ Z ik (evl c it)) ∧ BlkOk X.N X.env.scope scope (ownL S vs) ∧
      (∀ (s : Shared) (H : Hp) (C : Addr) (cl : List (Str × Addr)) (fp : List Addr), PG (X.blk s H scope (compEnvC scope cl C X.env) fp) tg (gB Γ pt)) ∧ (∀ (s : Shared) (H : Hp) (C : Addr) (cl : List (Str × Addr)) (fp : List Addr), PTs (X.blk s H scope (compEnvC scope cl C X.env) fp) ifs tt) ∧
      (∀ (s : Shared) (H : Hp) (C : Addr) (cl : List (Str × Addr)) (fp : List Addr), PE (X.blk s H scope (compEnvC scope cl C X.env) fp) elt te) ∧ ∀ x, foldedSetIterable iter X.env x = pure x := by
  obtain ⟨elt, tg, iter, ifs, scope, pos, rfl, h1, h2, h3, h4, h5, h6⟩ := fLc_inv h
  obtain ⟨p1, p2⟩ := it_ok g (ihit S k Z X g).2.1 h4
  have gb : ∀ (s : Shared) (H : Hp) (C : Addr) (cl : List (Str × Addr)) (fp : List Addr), Gd Γ c (S.blk scope) k ZN (X.blk s H scope (compEnvC scope cl C X.env) fp) := fun s H C cl fp => g.blk scope s H C cl fp
  have go : ∀ (s : Shared) (H : Hp) (C : Addr) (cl : List (Str × Addr)) (fp : List Addr), GenO Γ c ZN (X.blk s H scope (compEnvC scope cl C X.env) fp) r elt ifs := fun s H C cl fp => (ihr _ k _ _ (gb s H C cl fp)).2.2 elt ifs h6
  rcases genR_of h5 h6 with ⟨x, rfl, rfl⟩ | ⟨t, x, cd, rfl, rfl⟩
  · exact ⟨elt, tg, iter, _, scope, pos, _, _, rfl, .y x, h3, p1, blk_ok g h1, fun s H C cl fp => pg_ok (gb s H C cl fp) h2, fun s H C cl fp => pts_nil, fun s H C cl fp => go s H C cl fp, p2⟩
  · exact ⟨elt, tg, iter, _, scope, pos, _, _, rfl, .f t x, h3, p1, blk_ok g h1, fun s H C cl fp => pg_ok (gb s H C cl fp) h2, fun s H C cl fp => pts_one (go s H C cl fp).1, fun s H C cl fp => (go s H C cl fp).2, p2⟩
theorem snd_lc {al : Bool} {vs : List Nat} {ik : Ik} {pt : Pt} {it r : Ex} (ihit : SndE Γ B c it) (ihr : SndE Γ B c r) : SndE Γ B c (.lc al vs ik pt it r) := by
  intro S k Z X g
  refine ⟨fun e h => ?_, fun es h => (by cases h), fun _ _ h => (by cases h)⟩
  obtain ⟨elt, tg, iter, ifs, scope, pos, tt, te, rfl, hr, hv, p1, p2, p3, p4, p5, p6⟩ := lc_parts g ihit ihr (show fLc S vs ik pt e (okL B it S) (okG B r) = true from h)
  refine both rfl (PE.imp (pe_lc g.calm (by rw [g.N]; exact g.nd) p1 p2 p3 p4 p5 p6) fun σ H Q t => ?_)
  rw [ownL_ix]
  exact lc_read hr hv t
theorem snd_yld {x : Ex} (ih : SndE Γ B c x) : SndE Γ B c (.yld x) := by
  intro S k Z X g
  refine ⟨fun e h => (by cases h), fun es h => (by cases h), fun elt ifs h => ?_⟩
  cases ifs with
  | nil =>
    have h : (true && okE B x S elt) = true := h
    rw [Bool.true_and] at h
    exact ((ih S k Z X g).1 _ h).1
  | cons _ _ => cases h
theorem snd_gif {t r : Ex} (iht : SndE Γ B c t) (ihr : SndE Γ B c r) : SndE Γ B c (.gif t r) := by
  intro S k Z X g
  refine ⟨fun e h => (by cases h), fun es h => (by cases h), fun elt ifs h => ?_⟩
  cases ifs with
  | nil => cases h
  | cons cd ifs =>
    have h : (okE B t S cd && okG B r S elt ifs) = true := h
    rw [Bool.and_eq_true] at h
    exact ⟨((iht S k Z X g).1 _ h.1).2, (ihr S k Z X g).2.2 elt ifs h.2⟩
theorem snd_no {x : Ex} (h1 : ∀ S e, okE B x S e = false) (h2 : ∀ S es, okL B x S es = false) (h3 : ∀ S e es, okG B x S e es = false) : SndE Γ B c x := fun S k Z X g =>
  ⟨fun e h => (by rw [h1] at h; cases h), fun es h => (by rw [h2] at h; cases h), fun e es h => (by rw [h3] at h; cases h)⟩
theorem sndE (hB1 : Γ.gs = B.gs) (hB2 : Γ.ft = B.ft) (hB3 : Γ.ks = B.ks) (hB4 : Γ.pl = B.pl) (hB5 : Γ.xi = B.xi) (hB6 : Γ.kw = B.kw) (x : Ex) : SndE Γ B c x := by
  induction x with
  | nil => exact snd_nil
  | cons a r iha ihr => exact snd_cons iha ihr
  | cst d => exact snd_cst hB1 hB3
  | var i => exact snd_var
  | pr p es ih => exact snd_pr ih
  | slc a b d iha ihb ihd => exact snd_slc iha ihb ihd
  | nt a ih => exact snd_nt ih
  | and a b iha ihb => exact snd_and iha ihb
  | or a b iha ihb => exact snd_or iha ihb
  | chn o p a b d iha ihb ihd => exact snd_chn iha ihb ihd
  | ite t a b iht iha ihb => exact snd_ite iht iha ihb
  | call md i es ih => exact snd_call hB2 ih
  | nlst es ih => exact snd_nlst ih
  | frz a ih => exact snd_frz ih
  | app a x iha ihx => exact snd_app iha ihx
  | lc al vs ik pt it r ihit ihr => exact snd_lc ihit ihr
  | pop a ih => exact snd_pop ih
  | popi a x iha ihx => exact snd_popi iha ihx
  | dget a b iha ihb => exact snd_dget iha ihb
  | ndct es ih => exact snd_ndct ih
  | mk q es ih => exact snd_mk hB1 hB4 hB5 ih
  | mkk q a ih => exact snd_mkk hB1 hB5 ih
  | callk md f n pm es ih => exact snd_callk hB2 hB6 ih
  | yld x ih => exact snd_yld ih
  | gif t r iht ihr => exact snd_gif iht ihr
  | _ => exact snd_no (fun _ _ => rfl) (fun _ _ => rfl) (fun _ _ _ => rfl)
end
end Ip

set_option Elab.async false
set_option linter.all false
set_option maxRecDepth 100000
set_option maxHeartbeats 400000
/-! IpStm: statements. -/
namespace Ip
open PySem PySem.Spec PyProof.Rows L2

def noComp : Expr → Bool
  | .ListComp _ _ _ _ => false
  | .SetComp _ _ _ _ => false
  | .DictComp _ _ _ _ _ => false
  | _ => true
def isLc : Ex → Bool
  | .lc _ _ _ _ _ _ => true
  | _ => false
def isTupE : Expr → Bool
  | .Tuple _ _ _ => true
  | _ => false
theorem sw_no {v : Expr} (h : noComp v = true) (tg : Option Expr) (l : Nat) (env : PySem.Env) : swapsWith v tg l env = pure false := by
  cases v <;> first | (cases h; done) | rfl
theorem sw_tup {v : Expr} {es : List Expr} {j : Nat} {p : Pos} (l : Nat) (env : PySem.Env) : swapsWith v (some (.Tuple es j p)) l env = pure false := by
  cases v <;> rfl
theorem st_no {v : Expr} (h : isTupE v = false) (tg : List Expr) (env : PySem.Env) : swappedStores tg v env = pure none := by
  unfold swappedStores
  cases v <;> first | (cases h; done) | skip
  all_goals (rcases tg with _ | ⟨t, _ | ⟨t2, tg⟩⟩ <;> first | rfl | (cases t <;> rfl))
/-- is the store swapped with the comprehension's end -/
def lcSwap (S : SC) (v : Expr) (x : Str) (p : Pos) : Bool := match v with
  | .ListComp _ _ sc pos => S.knd x == some .local && p.line == pos.line && !(sc.names.any fun (n, k) => n == x && (k == .local || k == .cell))
  | _ => false
def fAsg (S : SC) (i : Nat) (l : Bool) (st : Stmt) (k : Expr → Bool) : Bool := match st with
  | .Assign [.Name x _] v _ => (S.N[i]? == some x) && S.loc x && (noComp v || l) && k v
  | _ => false
def fAsgp (S : SC) (pt : Pt) (st : Stmt) (k : Expr → Bool) : Bool := match st with
  | .Assign [tg] v _ => isTup tg && okP S pt tg && !isTupE v && k v
  | _ => false
theorem fAsg_inv {S : SC} {i : Nat} {l : Bool} {st : Stmt} {k : Expr → Bool} (h : fAsg S i l st k = true) : ∃ x p v pos, st = .Assign [.Name x p] v pos ∧ (S.N[i]? == some x) = true ∧ S.loc x = true ∧ (noComp v || l) = true ∧ k v = true := by
  unfold fAsg at h
  split at h
  · simp only [Bool.and_eq_true] at h
    exact ⟨_, _, _, _, rfl, h.1.1.1, h.1.1.2, h.1.2, h.2⟩
  · cases h
theorem fAsgp_inv {S : SC} {pt : Pt} {st : Stmt} {k : Expr → Bool} (h : fAsgp S pt st k = true) : ∃ tg v pos, st = .Assign [tg] v pos ∧ isTup tg = true ∧ okP S pt tg = true ∧ isTupE v = false ∧ k v = true := by
  unfold fAsgp at h
  split at h
  · simp only [Bool.and_eq_true, Bool.not_eq_true'] at h
    exact ⟨_, _, _, rfl, h.1.1.1, h.1.1.2, h.1.2, h.2⟩
  · cases h
def fIfe (st : Stmt) (k1 : Expr → Bool) (k2 k3 : List Stmt → Bool) : Bool := match st with
  | .If c a b _ => k1 c && k2 a && k3 b
  | _ => false
def fRet (e : Ex) (st : Stmt) (k : Expr → Bool) : Bool := match st with
  | .Return (some v) _ => k v
  | .Return none _ => (match e with
    | .cst .non => true
    | _ => false)
  | _ => false
def fExp (st : Stmt) (k : Expr → Bool) : Bool := match st with
  | .Expr v _ => noComp v && k v
  | _ => false
def fFor (S : SC) (ik : Ik) (pt : Pt) (st : Stmt) (kI : List Expr → Bool) (k : List Stmt → Bool) : Bool := match st with
  | .For tg iter body [] _ => okP S pt tg && fIt S ik tg iter kI && k body
  | _ => false
def fWhl (st : Stmt) (k1 : Expr → Bool) (k : List Stmt → Bool) : Bool := match st with
  | .While c body [] _ => k1 c && k body
  | _ => false
def fDset (st : Stmt) (k1 k2 k3 : Expr → Bool) : Bool := match st with
  | .Assign [.Subscript o i _] v _ => noComp v && k1 o && k2 i && k3 v
  | _ => false
theorem fDset_inv {st : Stmt} {k1 k2 k3 : Expr → Bool} (h : fDset st k1 k2 k3 = true) : ∃ o i p v pos, st = .Assign [.Subscript o i p] v pos ∧ noComp v = true ∧ k1 o = true ∧ k2 i = true ∧ k3 v = true := by
  unfold fDset at h
  split at h
  · simp only [Bool.and_eq_true] at h
    exact ⟨_, _, _, _, _, rfl, h.1.1.1, h.1.1.2, h.1.2, h.2⟩
  · cases h
def isStar : Expr → Bool
  | .Starred _ _ => true
  | _ => false
def nameAt (S : SC) (l : Nat) (t : Expr) : Option Str := match t with
  | .Name id pos => if S.knd id == some .local && pos.line == l then some id else none
  | _ => none
def namesAt (S : SC) (l : Nat) (ts : List Expr) : List Str := ts.filterMap fun t => nameAt S l t
def line0 (ts : List Expr) : Nat := (ts.head?.map (·.pos.line)).getD 0
/-- which names are stored from the right -/
def swp (S : SC) (ts vs : List Expr) : Option (Option (List Str)) :=
  if !(ts.length == 2 || ts.length == 3) || vs.length != ts.length then some none else
  if vs.any isStar then some none else
  if (namesAt S (line0 ts) ts).length != ts.length || (namesAt S (line0 ts) ts).eraseDups.length != (namesAt S (line0 ts) ts).length then some none else
  if vs.all (foldedForSure 8) then some none else
  if vs.all (constantsAlone 8) then none else some (some (namesAt S (line0 ts) ts))
theorem swp_ok {S : SC} {env : PySem.Env} {ts vs : List Expr} {j1 j2 p1 p2} {r : Option (List Str)} (hk : env.blockKind = .function) (hS : ∀ x, env.kindOf x = S.knd x) (h : swp S ts vs = some r) :
    swappedStores [.Tuple ts j1 p1] (.Tuple vs j2 p2) env = pure r := by
  have hn : ∀ f : Expr → Option Str, (∀ t, f t = nameAt S (line0 ts) t) → List.filterMap f ts = namesAt S (line0 ts) ts := fun f hf => by
    unfold namesAt
    congr 1
    funext t
    exact hf t
  have hst : (vs.any fun t => match t with
    | .Starred _ _ => true
    | _ => false) = vs.any isStar := by
    congr 1
  unfold swappedStores
  unfold swp at h
  simp only [hk]
  by_cases c1 : (!(ts.length == 2 || ts.length == 3) || vs.length != ts.length) = true
  · rw [if_pos c1] at h
    cases h
    rw [if_pos (by simpa using c1)]
  · rw [if_neg c1] at h
    rw [if_neg (by simpa using c1)]
    by_cases c2 : (vs.any isStar) = true
    · rw [if_pos c2] at h
      cases h
      rw [if_pos (by rw [← hst] at c2; exact c2)]
    · rw [if_neg c2] at h
      rw [if_neg (by rw [← hst] at c2; exact c2)]
      rw [hn _ (fun t => by
        cases t <;> first | rfl | skip
        unfold nameAt line0
        simp only [hS])]
      by_cases c3 : ((namesAt S (line0 ts) ts).length != ts.length || (namesAt S (line0 ts) ts).eraseDups.length != (namesAt S (line0 ts) ts).length) = true
      · rw [if_pos c3] at h ⊢
        cases h; rfl
      · rw [if_neg c3] at h ⊢
        by_cases c4 : vs.all (foldedForSure 8) = true
        · rw [if_pos c4] at h ⊢
          cases h; rfl
        · rw [if_neg c4] at h ⊢
          by_cases c5 : vs.all (constantsAlone 8) = true
          · rw [if_pos c5] at h; cases h
          · rw [if_neg c5] at h ⊢
            cases h; rfl
def nmOf : Expr → Str
  | .Name x _ => x
  | _ => ""
def isLocN (S : SC) : Expr → Bool
  | .Name x _ => S.knd x == some .local
  | _ => false
/-- the stores are of a known order -/
def swOk (S : SC) (ts vs : List Expr) : Bool := match swp S ts vs with
  | some none => true
  | some (some ns) => decide (ns = ts.map nmOf) && ts.all (isLocN S)
  | none => false
def fPar (S : SC) (is : List Nat) (st : Stmt) (kk : List Expr → Bool) : Bool := match st with
  | .Assign [.Tuple [x, y] _ _] (.Tuple vs _ _) _ => (match is with
    | [i, j] => decide (i ≠ j) && fPv S i x && fPv S j y && swOk S [x, y] vs && decide (vs.length = 2) && kk vs
    | _ => false)
  | .Assign [.Tuple [x, y, z] _ _] (.Tuple vs _ _) _ => (match is with
    | [i, j, l] => decide (i ≠ j) && decide (i ≠ l) && decide (j ≠ l) && fPv S i x && fPv S j y && fPv S l z && swOk S [x, y, z] vs && decide (vs.length = 3) && kk vs
    | _ => false)
  | _ => false
def fRais (B : Tb) (S : SC) (e : Ex) (st : Stmt) : Bool := match st with
  | .Raise (some (.Call (.Name x _) [y] [] _)) none _ => (match raisC e with
    | some (q, a) => (B.gs[q]? == some x) && (B.pl.contains q || B.xi.any (fun p => p.1 == q)) && S.glb x && notStar y && okE B a S y
    | none => false)
  | _ => false
def fTry (B : Tb) (S : SC) (k i : Nat) (a : Sm) (st : Stmt) (kb : List Stmt → Bool) : Bool := match st with
  | .Try body [.ExceptHandler (some (.Name x _)) (some n) [.Assign [.Name y _] (.Name m _) _] _] [] [] _ => (match cauS a with
    | some (j, i') => decide (i' = i) && (B.gs[k]? == some x) && (B.pl.contains k || B.xi.any (fun p => p.1 == k)) && S.glb x && (S.N[i]? == some n) && (S.knd n == some .local) && decide (m = n) && nodbg n && (S.N[j]? == some y) && S.loc y && kb body
    | none => false)
  | _ => false
section
variable (B : Tb)
mutual
def okS : Sm → SC → Stmt → Bool
  | .asg i e, S, st => fAsg S i (isLc e) st (okE B e S)
  | .asgp pt e, S, st => fAsgp S pt st (okE B e S)
  | .ife t a b, S, st => fIfe st (okE B t S) (okB a S) (okB b S)
  | .ret e, S, st => fRet e st (okE B e S)
  | .exp e, S, st => fExp st (okE B e S)
  | .brk, _, st => (match st with
    | .Break _ => true
    | _ => false)
  | .cnt, _, st => (match st with
    | .Continue _ => true
    | _ => false)
  | .forr ik pt it b, S, st => fFor S ik pt st (okL B it S) (okB b S)
  | .dset a k e, S, st => fDset st (okE B a S) (okE B k S) (okE B e S)
  | .whl t b, S, st => fWhl st (okE B t S) (okB b S)
  | .rais e, S, st => fRais B S e st
  | .par is es, S, st => fPar S is st (okL B es S)
  | .tryw b k i a, S, st => fTry B S k i a st (okB b S)
  | _, _, _ => false
def okB : Sm → SC → List Stmt → Bool
  | .sk, _, sts => sts.isEmpty
  | .sq a b, S, sts => (match sts with
    | st :: rest => okS a S st && okB b S rest
    | [] => false)
  | _, _, _ => false
end
end
section
variable {Γ : Env} {B : Tb} {c : Cfg} {S : SC} {k : Nat} {Z : WX} {X : Cx}
/-- the context of a def's own block -/
structure TopX (X : Cx) : Prop where
  kd : X.env.scope.kind = .function
  stk : X.stack = X.env :: X.outer
  frm : X.env.frame = some X.env.locals
def SndS (Γ : Env) (B : Tb) (c : Cfg) (b : Sm) : Prop := ∀ (S : SC) (k : Nat) (Z : WX) (X : Cx), Gd Γ c S k Z X → TopX X → PassesOwn (model X.prog X.w) X.A X.env X.xe →
  (∀ st, okS B b S st = true → PS X st (tS Γ Z (sx c b))) ∧ (∀ sts, okB B b S sts = true → PSs X sts (tS Γ Z (sx c b)))
theorem FinS.badE {D : Ends} {ρ : Rho} {G : Hp} {η : Hv} {H : Hp} {C : Prop} (h : FinS Γ Z D ρ G η H .bad) : C := False.elim h
theorem tS_ofE {e : Ex} {kk : List (Option W) → W → Hv → O} {D : Ends} {σ : L2.St} {H : Hp} (h : tS Γ Z (fun ν h => O.ofE ν (ev c e ν h) (kk ν)) D σ H) :
    tI Γ Z (ev c e) σ H fun x H1 => ∃ ν w η ρ G, Sim Γ ρ G η H1 ∧ Slots Γ G ρ ν σ ∧ RepW Γ G ρ w x ∧ FinS Γ Z D ρ G η H1 (kk ν w η) := by
  obtain ⟨ν, η, ρ, G, Sm, T, h⟩ := h
  exact ⟨ν, η, ρ, G, Sm, T, FinS.ofE T h _ fun w ρ1 G1 η1 H1 S1 E1 h1 v rv => ⟨ν, w, η1, ρ1, G1, S1, T.mono E1.same E1.rho, rv, h1⟩⟩
theorem snd_asg (hE : ∀ x, SndE Γ B c x) {i : Nat} {e : Ex} : SndS Γ B c (.asg i e) := by
  intro S k Z X g hkd hp
  refine ⟨fun st h => ?_, fun sts h => (by cases h)⟩
  obtain ⟨x, p, v, pos, rfl, h1, h2, h3, h4⟩ := fAsg_inv (show fAsg S i (isLc e) st (okE B e S) = true from h)
  obtain ⟨l1, l2⟩ := g.loc h2
  have fin : ∀ {D : Ends} {σ : L2.St} {H : Hp}, tS Γ Z (sx c (.asg i e)) D σ H → tAsg (tI Γ Z (ev c e)) (gName i) D σ H := fun {D σ H} t => by
    have t2 := tS_ofE (kk := fun ν w h' => .nx (ν.set i (some w)) h') (show tS Γ Z (fun ν h => O.ofE ν (ev c e ν h) fun w h' => .nx (ν.set i (some w)) h') D σ H from t)
    obtain ⟨ν, η, ρ, G, Sm, T, q⟩ := t2
    refine ⟨ν, η, ρ, G, Sm, T, q.imp fun G1 ρ1 w1 H1 qq v rv => ?_⟩
    obtain ⟨ν2, w2, η2, ρ2, G2, S2, T2, r2, q2⟩ := qq v rv
    exact q2 _ ρ2 G2 H1 S2 (Ext.refl _ _ _ _) (T2.set r2)
  by_cases hc : noComp v = true
  · have P : PS X (.Assign [.Name x p] v pos) (tAsg (tI Γ Z (ev c e)) (gName i)) := ps_set (by rw [g.N]; exact g.nd) (g.ix h1) l1 ((hE e S k Z X g).1 v h4).1 (sw_no hc _ _ _) l2
    exact PS.imp P fun D σ H t => fin t
  · have hc : noComp v = false := by simpa using hc
    rw [hc, Bool.false_or] at h3
    cases e <;> first | (cases h3; done) | skip
    rename_i al vs ik pt it r
    obtain ⟨elt, tg, iter, ifs, scope, cpos, tt, te, rfl, hr, hv, p1, p2, p3, p4, p5, p6⟩ := lc_parts g (hE it) (hE r) (show fLc S vs ik pt v (okL B it S) (okG B r) = true from h4)
    have hkf : X.env.blockKind = .function := by unfold Env.blockKind; rw [hkd.kd]; rfl
    have hsw : swapsWith (.ListComp elt [⟨tg, iter, ifs, 0⟩] scope cpos) (some (.Name x p)) pos.line X.env = pure (lcSwap S (.ListComp elt [⟨tg, iter, ifs, 0⟩] scope cpos) x p) := by
      have hknd : X.env.kindOf x = S.knd x := by show X.env.scope.names.lookup x = _; rw [g.sc]; rfl
      unfold swapsWith lcSwap
      simp only [hkf, hknd, Expr.pos]
      rfl
    cases hb : lcSwap S (.ListComp elt [⟨tg, iter, ifs, 0⟩] scope cpos) x p with
    | true =>
      rw [hb] at hsw
      have hloc : X.env.scope.names.lookup x = some .local := by
        simp only [lcSwap, Bool.and_eq_true, beq_iff_eq] at hb
        rw [g.sc]
        exact hb.1.1
      refine PS.imp (ps_setLc g.calm (by rw [g.N]; exact g.nd) (g.ix h1) hloc hsw p1 p2 p3 p4 p5 p6) fun D σ H t => ?_
      have t2 : tLc (tIt Γ Z ik (evl c it)) (gB Γ pt) tt te vs σ H fun x H1 => gName i x σ H1 D.nx := lc_read hr hv (fin t)
      rw [ownL_ix]
      exact t2
    | false =>
      rw [hb] at hsw
      have P := ps_set (X := X) (pos := pos) (i := i) (x := x) (pos' := p) (by rw [g.N]; exact g.nd) (g.ix h1) l1 ((hE (.lc al vs ik pt it r) S k Z X g).1 _ h4).1 hsw l2
      exact PS.imp P fun D σ H t => fin t
theorem snd_asgp (hE : ∀ x, SndE Γ B c x) {pt : Pt} {e : Ex} : SndS Γ B c (.asgp pt e) := by
  intro S k Z X g hkd hp
  refine ⟨fun st h => ?_, fun sts h => (by cases h)⟩
  obtain ⟨tg, v, pos, rfl, h1, h2, h3, h4⟩ := fAsgp_inv (show fAsgp S pt st (okE B e S) = true from h)
  obtain ⟨es, j, p, rfl⟩ := isTup_inv h1
  have hs : swapsWith v (some (.Tuple es j p)) pos.line X.env = pure false := sw_tup _ _
  have P : PS X (.Assign [.Tuple es j p] v pos) (tAsg (tI Γ Z (ev c e)) (gB Γ pt)) := ps_asg ((hE e S k Z X g).1 v h4).1 (pg_ok g h2) hs (st_no h3 _ _) (by rw [assign_of (by rfl)]; rfl)
  refine PS.imp P fun D σ H t => ?_
  have t2 := tS_ofE (kk := fun ν w h' => match bindP pt w ν with | some ν' => .nx ν' h' | none => .bad) (show tS Γ Z (fun ν h => O.ofE ν (ev c e ν h) fun w h' => match bindP pt w ν with | some ν' => .nx ν' h' | none => .bad) D σ H from t)
  obtain ⟨ν, η, ρ, G, Sm, T, q⟩ := t2
  refine ⟨ν, η, ρ, G, Sm, T, q.imp fun G1 ρ1 w1 H1 qq v rv => ?_⟩
  obtain ⟨ν2, w2, η2, ρ2, G2, S2, T2, r2, q2⟩ := qq v rv
  cases eb : bindP pt w2 ν2 with
  | none => rw [eb] at q2; exact FinS.badE q2
  | some ν' =>
    rw [eb] at q2
    exact ⟨ν2, ρ2, G2, w2, ν', T2, S2.same, r2, eb, fun σ' _ _ T' => q2 σ' ρ2 G2 H1 S2 (Ext.refl _ _ _ _) T'⟩
theorem snd_ife (hE : ∀ x, SndE Γ B c x) {t : Ex} {a b : Sm} (iha : SndS Γ B c a) (ihb : SndS Γ B c b) : SndS Γ B c (.ife t a b) := by
  intro S k Z X g hkd hp
  refine ⟨fun st h => ?_, fun sts h => (by cases h)⟩
  have h : fIfe st (okE B t S) (okB B a S) (okB B b S) = true := h
  unfold fIfe at h
  split at h
  · simp only [Bool.and_eq_true] at h
    refine PS.imp (ps_if ((hE t S k Z X g).1 _ h.1.1).2 ((iha S k Z X g hkd hp).2 _ h.1.2) ((ihb S k Z X g hkd hp).2 _ h.2)) fun D σ H q => ?_
    obtain ⟨ν, η, ρ, G, Sm, T, q⟩ := q
    refine ⟨ν, η, ρ, G, Sm, T, FinS.ofE T (show FinS Γ Z D ρ G η H (O.ofE ν (ev c t ν η) fun w h' => match w with
      | .d (.bl true) => sx c a ν h'
      | .d (.bl false) => sx c b ν h'
      | _ => .bad) from q) _ fun w ρ1 G1 η1 H1 S1 E1 h1 => ?_⟩
    have T1 := T.mono E1.same E1.rho
    rcases w with d | n | ⟨l, cs⟩
    · cases d <;> first | exact FinS.badE h1 | skip
      rename_i kk
      refine ⟨kk, rfl, ?_⟩
      cases kk with
      | true => exact ⟨ν, η1, ρ1, G1, S1, T1, h1⟩
      | false => exact ⟨ν, η1, ρ1, G1, S1, T1, h1⟩
    · exact FinS.badE h1
    · exact FinS.badE h1
  · cases h
theorem snd_ret (hE : ∀ x, SndE Γ B c x) {e : Ex} : SndS Γ B c (.ret e) := by
  intro S k Z X g hkd hp
  refine ⟨fun st h => ?_, fun sts h => (by cases h)⟩
  have h : fRet e st (okE B e S) = true := h
  unfold fRet at h
  split at h
  · refine PS.imp (ps_ret ((hE e S k Z X g).1 _ h).1) fun D σ H t => ?_
    have t2 := tS_ofE (kk := fun ν w h' => .ret w h') (show tS Γ Z (fun ν h => O.ofE ν (ev c e ν h) fun w h' => .ret w h') D σ H from t)
    obtain ⟨ν, η, ρ, G, Sm, T, q⟩ := t2
    refine ⟨ν, η, ρ, G, Sm, T, q.imp fun G1 ρ1 w1 H1 qq v rv => ?_⟩
    obtain ⟨ν2, w2, η2, ρ2, G2, S2, T2, r2, q2⟩ := qq v rv
    exact q2 v ρ2 G2 H1 S2 (Ext.refl _ _ _ _) r2
  · split at h
    · refine PS.imp ps_retN fun D σ H t => ?_
      obtain ⟨ν, η, ρ, G, Sm, T, q⟩ := t
      have q : FinS Γ Z D ρ G η H (.ret (.d .non) η) := q
      exact q .non ρ G H Sm (Ext.refl _ _ _ _) .non
    · cases h
  · cases h
theorem snd_exp (hE : ∀ x, SndE Γ B c x) {e : Ex} : SndS Γ B c (.exp e) := by
  intro S k Z X g hkd hp
  refine ⟨fun st h => ?_, fun sts h => (by cases h)⟩
  have h : fExp st (okE B e S) = true := h
  unfold fExp at h
  split at h
  · rw [Bool.and_eq_true] at h
    refine PS.imp (ps_expr ((hE e S k Z X g).1 _ h.2).1 (sw_no h.1 _ _ _)) fun D σ H t => ?_
    have t2 := tS_ofE (kk := fun ν w h' => .nx ν h') (show tS Γ Z (fun ν h => O.ofE ν (ev c e ν h) fun w h' => .nx ν h') D σ H from t)
    obtain ⟨ν, η, ρ, G, Sm, T, q⟩ := t2
    refine ⟨ν, η, ρ, G, Sm, T, q.imp fun G1 ρ1 w1 H1 qq v rv => ?_⟩
    obtain ⟨ν2, w2, η2, ρ2, G2, S2, T2, r2, q2⟩ := qq v rv
    exact q2 _ ρ2 G2 H1 S2 (Ext.refl _ _ _ _) T2
  · cases h
theorem dsetW_ok {w kw x : W} {η η' : Hv} {u : Unit} (h : dsetW w kw x η = .ok u η') : ∃ n kvs kd key, w = .ref n ∧ kw = .d kd ∧ η[n]? = some (.dct kvs) ∧ keyK kd = some key ∧ kvs.length < lim ∧ η' = η.set n (.dct (setK kvs kd x)) := by
  unfold dsetW at h
  cases w with
  | d x => cases h
  | clo l cs => cases h
  | ref n =>
    cases kw with
    | ref m => cases h
    | clo l cs => cases h
    | d kd =>
      simp only at h
      cases e : η[n]? with
      | none => rw [e] at h; cases h
      | some o =>
        rw [e] at h
        cases o with
        | dct kvs =>
          simp only at h
          by_cases hc : (keyK kd).isSome ∧ kvs.length < lim
          · rw [if_pos hc] at h
            cases h
            obtain ⟨key, hk⟩ := Option.isSome_iff_exists.mp hc.1
            exact ⟨n, kvs, kd, key, rfl, rfl, e, hk, hc.2, rfl⟩
          · rw [if_neg hc] at h; cases h
        | dead => cases h
        | lst _ => cases h
        | cel _ => cases h
theorem snd_dset (hE : ∀ x, SndE Γ B c x) {a ky e : Ex} : SndS Γ B c (.dset a ky e) := by
  intro S k Z X g hkd hp
  refine ⟨fun st h => ?_, fun sts h => (by cases h)⟩
  obtain ⟨o, i, p, v, pos, rfl, h1, h2, h3, h4⟩ := fDset_inv (show fDset st (okE B a S) (okE B ky S) (okE B e S) = true from h)
  have P : PS X (.Assign [.Subscript o i p] v pos) (sDPut (tI Γ Z (ev c a)) (tI Γ Z (ev c ky)) (tI Γ Z (ev c e))) := ps_dput (by have := g.room.un; omega) ((hE a S k Z X g).1 _ h2).1 ((hE ky S k Z X g).1 _ h3).1 ((hE e S k Z X g).1 _ h4).1 (sw_no h1 _ _ _)
  refine PS.imp P fun D σ H t => ?_
  obtain ⟨ν, η, ρ, G, S0, T, t⟩ := t
  have t : FinS Γ Z D ρ G η H (O.ofE ν ((ev c e ν >>= fun x => ev c a ν >>= fun w => ev c ky ν >>= fun y => dsetW w y x) η) fun _ h' => .nx ν h') := t
  -- the whole as one run
  have key : Fin Γ Z (fun G1 ρ1 (_ : Unit) H1 => ∃ η1, Sim Γ ρ1 G1 η1 H1 ∧ FinS Γ Z D ρ1 G1 η1 H1 (.nx ν η1)) σ ρ G η H ((ev c e ν >>= fun x => ev c a ν >>= fun w => ev c ky ν >>= fun y => dsetW w y x) η) := by
    cases q : (ev c e ν >>= fun x => ev c a ν >>= fun w => ev c ky ν >>= fun y => dsetW w y x) η with
    | ok u η' =>
      rw [q] at t
      exact fun ρ' G' H' S' E' => ⟨η', S', FinS.step E' t⟩
    | exc x η' =>
      rw [q] at t
      exact fun cls d ρ' G' H' S' E' r => t cls d σ ρ' G' H' S' E' (T.mono E'.same E'.rho) r
    | bad => rw [q] at t; exact FinS.badE t
  refine ⟨ν, η, ρ, G, S0, T, Fin.bind key _ fun wx ρ1 G1 η1 H1 S1 E1 t1 x rx => ?_⟩
  have T1 := T.mono E1.same E1.rho
  refine ⟨ν, η1, ρ1, G1, S1, T1, Fin.bind t1 _ fun wd ρ2 G2 η2 H2 S2 E2 t2 xd rd => ?_⟩
  have T2 := T1.mono E2.same E2.rho
  refine ⟨ν, η2, ρ2, G2, S2, T2, Fin.bind t2 _ fun wy ρ3 G3 η3 H3 S3 E3 t3 y ry => ?_⟩
  have T3 := T2.mono E3.same E3.rho
  cases q : dsetW wd wy wx η3 with
  | ok u η4 =>
    rw [q] at t3
    obtain ⟨n, kvs, kd, key, rfl, rfl, e3, e4, e5, rfl⟩ := dsetW_ok q
    obtain ⟨p1, ks, rfl, hp1, hl, hH, rk⟩ := own_dct S3 e3 (rd.mono E3.same E3.rho)
    have ek := kvOf e4 ry
    subst ek
    obtain ⟨S4, E4⟩ := S3.putO hl hp1 (RepC.dct (rk.set e4 (rx.mono (E2.trans E3).same (E2.trans E3).rho)))
    obtain ⟨η5, S5, t5⟩ := t3 ρ3 G3 _ S4 E4
    exact ⟨p1, _, rfl, .inl ⟨ks, key, hH, rfl, by rw [rk.length, hsz]; exact e5, rfl⟩, t5 σ ρ3 G3 _ S5 (Ext.refl _ _ _ _) T3⟩
  | exc x' η4 => exact absurd q (by unfold dsetW; intro h; split at h <;> first | cases h | (split at h <;> first | cases h | (split at h <;> cases h)))
  | bad => rw [q] at t3; exact Fin.badE t3
theorem snd_brk : SndS Γ B c .brk := by
  intro S k Z X g hkd hp
  refine ⟨fun st h => ?_, fun sts h => (by cases h)⟩
  cases st <;> first | (cases h; done) | skip
  refine PS.imp ps_break fun D σ H t => ?_
  obtain ⟨ν, η, ρ, G, Sm, T, q⟩ := t
  have q : FinS Γ Z D ρ G η H (.brk ν η) := q
  exact q _ ρ G H Sm (Ext.refl _ _ _ _) T
theorem snd_cnt : SndS Γ B c .cnt := by
  intro S k Z X g hkd hp
  refine ⟨fun st h => ?_, fun sts h => (by cases h)⟩
  cases st <;> first | (cases h; done) | skip
  refine PS.imp ps_continue fun D σ H t => ?_
  obtain ⟨ν, η, ρ, G, Sm, T, q⟩ := t
  have q : FinS Γ Z D ρ G η H (.cnt ν η) := q
  exact q _ ρ G H Sm (Ext.refl _ _ _ _) T
theorem snd_sk : SndS Γ B c .sk := by
  intro S k Z X g hkd hp
  refine ⟨fun st h => (by cases h), fun sts h => ?_⟩
  cases sts with
  | nil =>
    refine PSs.imp pss_nil fun D σ H t => ?_
    obtain ⟨ν, η, ρ, G, Sm, T, q⟩ := t
    have q : FinS Γ Z D ρ G η H (.nx ν η) := q
    exact q _ ρ G H Sm (Ext.refl _ _ _ _) T
  | cons _ _ => cases h
theorem snd_sq {a b : Sm} (iha : SndS Γ B c a) (ihb : SndS Γ B c b) : SndS Γ B c (.sq a b) := by
  intro S k Z X g hkd hp
  refine ⟨fun st h => (by cases h), fun sts h => ?_⟩
  cases sts with
  | nil => cases h
  | cons st rest =>
    have h : (okS B a S st && okB B b S rest) = true := h
    rw [Bool.and_eq_true] at h
    refine PSs.imp (pss_cons ((iha S k Z X g hkd hp).1 _ h.1) ((ihb S k Z X g hkd hp).2 _ h.2)) fun D σ H t => ?_
    obtain ⟨ν, η, ρ, G, Sm, T, q⟩ := t
    have q : FinS Γ Z D ρ G η H (match sx c a ν η with
      | .nx ν' h' => sx c b ν' h'
      | o => o) := q
    refine ⟨ν, η, ρ, G, Sm, T, ?_⟩
    cases e : sx c a ν η with
    | nx ν' η' =>
      rw [e] at q
      exact fun σ' ρ' G' H' S' E' T' => ⟨ν', η', ρ', G', S', T', FinS.step E' q⟩
    | ret w η' => rw [e] at q; exact q
    | brk ν' η' => rw [e] at q; exact q
    | cnt ν' η' => rw [e] at q; exact q
    | exc x ν' η' => rw [e] at q; exact q
    | bad => rw [e] at q; exact FinS.badE q
end
end Ip

set_option Elab.async false
set_option linter.all false
set_option maxRecDepth 100000
set_option maxHeartbeats 400000
/-! IpTrs: raise, try. -/
namespace Ip
open PySem PySem.Spec PyProof.Rows L2
section
variable {Γ : Env} {B : Tb} {c : Cfg} {S : SC} {k : Nat} {Z : WX} {X : Cx}
theorem fRais_inv {e : Ex} {st : Stmt} (h : fRais B S e st = true) : ∃ x p y p3 p4 q a, st = .Raise (some (.Call (.Name x p) [y] [] p3)) none p4 ∧ raisC e = some (q, a) ∧ B.gs[q]? = some x ∧ (q ∈ B.pl ∨ ∃ f, (q, f) ∈ B.xi) ∧ S.glb x = true ∧ notStar y = true ∧ okE B a S y = true := by
  unfold fRais at h
  split at h
  · cases e1 : raisC e with
    | none => rw [e1] at h; cases h
    | some qa =>
      obtain ⟨q, a⟩ := qa
      rw [e1] at h
      simp only [Bool.and_eq_true, beq_iff_eq, List.contains_eq_mem, decide_eq_true_eq, Bool.or_eq_true, List.any_eq_true] at h
      obtain ⟨⟨⟨⟨h1, h2⟩, h3⟩, h4⟩, h5⟩ := h
      refine ⟨_, _, _, _, _, q, a, rfl, rfl, h1, ?_, h3, h4, h5⟩
      rcases h2 with h2 | ⟨p, hp, rfl⟩
      · exact .inl h2
      · exact .inr ⟨p.2, hp⟩
  · cases h
theorem fTry_inv {q i : Nat} {a : Sm} {st : Stmt} {kb : List Stmt → Bool} (h : fTry B S q i a st kb = true) : ∃ body x p1 n y p2 p3 p4 p5 p6 j, st = .Try body [.ExceptHandler (some (.Name x p1)) (some n) [.Assign [.Name y p2] (.Name n p3) p4] p5] [] [] p6 ∧
    cauS a = some (j, i) ∧ B.gs[q]? = some x ∧ (q ∈ B.pl ∨ ∃ f, (q, f) ∈ B.xi) ∧ S.glb x = true ∧ (S.N[i]? == some n) = true ∧ S.knd n = some .local ∧ nodbg n = true ∧ (S.N[j]? == some y) = true ∧ S.loc y = true ∧ kb body = true := by
  unfold fTry at h
  split at h
  · cases e1 : cauS a with
    | none => rw [e1] at h; cases h
    | some ji =>
      obtain ⟨j, i'⟩ := ji
      rw [e1] at h
      simp only [Bool.and_eq_true, decide_eq_true_eq, List.contains_eq_mem, Bool.or_eq_true, List.any_eq_true] at h
      obtain ⟨⟨⟨⟨⟨⟨⟨⟨⟨⟨rfl, h1⟩, h2⟩, h3⟩, h4⟩, h5⟩, rfl⟩, h6⟩, h7⟩, h8⟩, h9⟩ := h
      refine ⟨_, _, _, _, _, _, _, _, _, _, j, rfl, rfl, beq_iff_eq.mp h1, ?_, h3, h4, beq_iff_eq.mp h5, h6, h7, h8, h9⟩
      rcases h2 with h2 | ⟨p, hp, h2⟩
      · exact .inl h2
      · exact .inr ⟨p.2, by rw [← beq_iff_eq.mp h2]; exact hp⟩
  · cases h
theorem Slots.unset {G : Hp} {ρ : Rho} {ν : List (Option W)} {σ : L2.St} {i : Nat} (T : Slots Γ G ρ ν σ) : Slots Γ G ρ (ν.set i none) (σ.set i none) := by
  refine ⟨by simp [T.1], fun m w hm => ?_⟩
  by_cases hi : m = i
  · subst hi
    rw [List.getElem?_set] at hm
    simp at hm
  · rw [List.getElem?_set_ne (Ne.symm hi)] at hm
    rw [List.getElem?_set_ne (Ne.symm hi)]
    exact T.2 m w hm
/-- raise C(e), C with an attribute -/
theorem pmk_xi {X : Cx} {C fI : Addr} {f : Str} {fd : FuncData} {x : Str} {e : Expr} {ta : TA} {k : Nat} {p pos : Pos} (F : XiF X.prog X.K C fI f fd) (T : XiC X.K C f) (iC : PySem.W.findIn X.K (.ref C) "__init__" = some (some (.ref fI))) (tI : PySem.W.typeIn X.K (.ref fI) = some (.type "function"))
    (hsup : X.mg "super" = none) (htop : (X.prog.main.scope.names.lookup ("super" : Str)).isSome = false) (hr : Room (k + 3) X.A) (hg : Gl X x) (hm : X.mg x = some (.ref C)) (he : PA X [e] ta) (hs : starEach [e] X.env = (false, eval e X.env) :: starEach [] X.env) (hdb : (x == ("__debug__" : Str)) = false) :
    PMk X (.Call (.Name x p) [e] [] pos) (tMkO C (spXi C f) [] ta) := by
  have F1 : FnOk X.prog X.w X.K X.mg X.base CX0 (k + 2) fI fd ["self", f] (spXi C f) := xi_fn F T.mem hsup htop T k
  have hb : Binds X.K fd ["self", f] [] := Binds.all fun us hl => by
    obtain ⟨oc, od, qual, params, body, scope, doc, pm, an, cda, ct, osl, cc, rfl, _, _, hpar, _⟩ := F.ex
    exact xi_bind T.mem hpar _ hl
  exact pmk_oex T.o iC tI F1 hr hb .nil pass0 hg hm he hdb hs
theorem snd_rais (hB1 : Γ.gs = B.gs) (hB4 : Γ.pl = B.pl) (hB5 : Γ.xi = B.xi) (hE : ∀ x, SndE Γ B c x) {e : Ex} : SndS Γ B c (.rais e) := by
  intro S k Z X g hkd hp
  refine ⟨fun st h => ?_, fun sts h => (by cases h)⟩
  obtain ⟨x, p, y, p3, p4, q, a, rfl, e1, h1, h2, h3, h4, h5⟩ := fRais_inv (show fRais B S e st = true from h)
  simp only [SC.glb, Bool.and_eq_true] at h3
  rw [← hB1] at h1
  rw [← hB4, ← hB5] at h2
  have PY := ((hE a S k Z X g).1 _ h5).1
  rcases h2 with h2 | ⟨f, h2⟩
  · obtain ⟨C, bmB, bs, n1, n2, f1, f2, f3, f4, f5, f6, f7⟩ := g.fns.fx.cls _ _ h2 h1
    refine PS.imp (ps_raise g.calm g.tk (SkE.pmk_own1 f2 (by rw [g.K]; exact f3) (by rw [g.mg]; exact f1) (by rw [g.K]; exact f4) (raises_own (by rw [g.K]; exact f5) (by rw [g.K]; exact f6)) (g.gl h3.1) PY (star_of h4 _ _) (nodbg_ok h3.2).1)) fun D σ H t => ?_
    obtain ⟨ν, η, ρ, G, Sm, T, t⟩ := t
    simp only [sx, e1] at t
    refine ⟨ν, η, ρ, G, Sm, T, Fin.bind (FinS.ofE T t (fun G1 ρ1 w H1 => w = .d (.exc q []) → Z (.ref C) none σ H1) fun w ρ1 G1 η1 H1 S1 E1 t1 ew => ?_) _ fun w ρ1 G1 η1 H1 S1 E1 t1 v rv => ?_⟩
    · subst ew
      exact t1 _ _ σ ρ1 G1 H1 S1 (Ext.refl _ _ _ _) (T.mono E1.same E1.rho) ⟨h2, x, C, h1, f1, rfl, rfl⟩
    · rcases mkX_ok t1 with ⟨hq, t1⟩ | ⟨f, z, hq, rfl, t1⟩
      · exact t1 ρ1 G1 H1 S1 (Ext.refl _ _ _ _) rfl
      · rw [g.fns.fx.xip q h2] at hq; cases hq
  · obtain ⟨C, fI, fd, f1, f2, f3, f4, f5, f6, f7⟩ := g.fns.fx.xcl _ _ _ h2 h1
    refine PS.imp (ps_raise g.calm g.tk (pmk_xi (k := k + 1) (by rw [g.K, g.P]; exact f2) (by rw [g.K]; exact f3) (by rw [g.K]; exact f4) (by rw [g.K]; exact f5) (g.blt (by decide +kernel)) (by rw [g.P]; exact g.fns.fx.top (fun z => by rw [z] at h2; cases h2)) g.room4 (g.gl h3.1) (by rw [g.mg]; exact f1) (pa_cons PY pa_nil (star_of h4 _ _)) (star_of h4 _ _) (nodbg_ok h3.2).1)) fun D σ H t => ?_
    obtain ⟨ν, η, ρ, G, Sm, T, t⟩ := t
    simp only [sx, e1] at t
    refine ⟨ν, η, ρ, G, Sm, T, Fin.bind (FinS.ofE T t (fun G1 ρ1 w H1 => ∀ y, w = .d (.exc q [(f, y)]) → ∀ v d, Rep Γ G1 y v → H1 d = none → Z (.ref C) (some d) σ (upd H1 d (.xd [((f : Str), v)]))) fun w ρ1 G1 η1 H1 S1 E1 t1 y ew v d rv hd => ?_) _ fun w ρ1 G1 η1 H1 S1 E1 t1 v rv => ?_⟩
    · subst ew
      have sm := same_upd (o := HO.xd [((f : Str), v)]) hd
      refine t1 _ _ σ ρ1 _ _ (S1.grow sm) (Ext.grow S1 sm) ((T.mono E1.same E1.rho).mono (grow_same S1.same) (fun _ _ h => h)) ⟨h2, x, C, d, v, h1, f1, rfl, rfl, ?_, Rep.mono (grow_same S1.same) rv⟩
      exact grow_up hd (fun _ z => by cases z)
    · rcases mkX_ok t1 with ⟨hq, t1⟩ | ⟨f', z, hq, rfl, t1⟩
      · rw [g.fns.fx.xif q f h2] at hq; cases hq
      · rw [g.fns.fx.xif q f h2] at hq
        cases hq
        refine ⟨by show 1 ≤ 1000; decide, fun ad hn => ⟨ad, v, rfl, upd_same, fun d hd hne => ⟨rfl, d, [((f : Str), v)], upd_same, by rw [upd_ne hne, upd_same], by rw [upd_ne hne] at hd; exact hd, ?_⟩⟩⟩
        have hd1 : H1 d = none := by rw [upd_ne hne] at hd; exact hd
        have e : upd (del (upd (upd (upd H1 ad (exo ad C none)) d (exd d [((f : Str), v)])) ad (exo ad C (some d))) ad) d (.xd [((f : Str), v)]) = upd H1 d (.xd [((f : Str), v)]) := by
          funext b
          by_cases hb : b = d
          · rw [hb, upd_same, upd_same]
          · rw [upd_ne hb, upd_ne hb]
            by_cases hb2 : b = ad
            · rw [hb2, hn]; exact del_same
            · rw [del_ne hb2, upd_ne hb2, upd_ne hb, upd_ne hb2]
        rw [e]
        exact t1 ρ1 G1 H1 S1 (Ext.refl _ _ _ _) z rfl v d rv hd1
theorem snd_try (hB1 : Γ.gs = B.gs) (hB4 : Γ.pl = B.pl) (hB5 : Γ.xi = B.xi) {b a : Sm} {q i : Nat} (ih : SndS Γ B c b) : SndS Γ B c (.tryw b q i a) := by
  intro S k Z X g hkd hp
  refine ⟨fun st h => ?_, fun sts h => (by cases h)⟩
  obtain ⟨body, x, p1, n, y, p2, p3, p4, p5, p6, j, rfl, e1, h1, h2, h3, h4, h5, h6, h7, h8, h9⟩ := fTry_inv (show fTry B S q i a st (okB B b S) = true from h)
  simp only [SC.glb, Bool.and_eq_true] at h3
  rw [← hB1] at h1
  rw [← hB4, ← hB5] at h2
  obtain ⟨C, f1⟩ := g.fns.gl _ _ h1
  have hk : X.env.kindOf n = some .local := by show X.env.scope.names.lookup n = _; rw [g.sc]; exact h5
  have hv : Vis X.env.scope n := .inl hk
  obtain ⟨l1, l2⟩ := g.loc h8
  have P := ps_try_own (X := X) (i := i) (np := p1) (pos := p6) (pos' := p5) (c := .ref C) (tb := fun W => tS Γ W (sx c b)) (ts := tAsg (tVar i) (gName j)) (Wout := Z) (body := body) (b₀ := .Assign [.Name y p2] (.Name n p3) p4) (suite := [])
    hkd.stk hkd.frm (by rw [g.N]; exact g.nd) (g.ix h4) hk (x := x) ⟨g.gl h3.1, (nodbg_ok h3.2).1, .inl (by rw [g.mg]; exact f1)⟩ g.tk
    (fun W pn xe tk po => ((ih S k W (X.tr pn xe) ⟨g.P, g.w, g.K, g.mg, g.base, g.N, g.nd, g.sc, g.fn, g.calm, g.rm, tk, g.fns, g.gd, g.lam⟩ ⟨hkd.kd, hkd.stk, hkd.frm⟩ po).2 body h9))
    (fun a pn => pss_one (ps_set (X := suiteX X a pn) (by rw [show (suiteX X a pn).N = X.N from rfl, g.N]; exact g.nd) (g.ix h7) l1 (pe_var (g.ix h4) hv (nodbg_ok h6).1 (nodbg_ok h6).2) rfl l2))
  refine PS.imp P fun D σ H t => ?_
  obtain ⟨ν, η, ρ, G, Sm, T, t⟩ := t
  refine ⟨ν, η, ρ, G, Sm, T, ?_⟩
  simp only [sx] at t
  cases eb : sx c b ν η with
  | nx ν' η' => rw [eb] at t; exact t
  | brk ν' η' => rw [eb] at t; exact t
  | cnt ν' η' => rw [eb] at t; exact t
  | ret w η' => rw [eb] at t; exact t
  | bad => rw [eb] at t; exact t
  | exc e ν' η' =>
    rw [eb] at t
    cases e <;> first | exact FinS.badE t | skip
    rename_i c0 fs
    simp only [e1, true_and] at t
    by_cases hl : i < ν'.length
    case neg => rw [if_neg hl] at t; exact FinS.badE t
    rw [if_pos hl] at t
    have main : ∀ (C0 : Addr) (x0 : Str) (d : Option Addr) (σ' : L2.St) (ρ' : Rho) (G' H' : Hp), isX Γ c0 → Γ.gs[c0]? = some x0 → Γ.mg x0 = some (.ref C0) → Sim Γ ρ' G' η' H' → Ext ρ G η H ρ' G' η' H' → Slots Γ G' ρ' ν' σ' → RepX Γ G' (.exc c0 fs) (.ref C0) d →
        (∀ ad, H' ad = none → RepW Γ (grow G' H' (upd H' ad (EX (.ref C0) d ad))) ρ' (.d (.exc c0 fs)) (.ref ad)) → wAsT X.K (.ref C) i (tAsg (tVar i) (gName j)) Z D (.ref C0) d σ' H' := fun C0 x0 d σ' ρ' G' H' hx k1 k2 S' E' T' rx rr => by
      refine ⟨c.sub c0 q, by rw [g.K]; exact g.fns.fx.exm _ _ _ _ _ _ hx h2 k1 h1 k2 f1, fun hb ad hn => ?_, fun hb => ?_⟩
      · rw [hb] at t
        simp only [if_true] at t
        have hi : i < σ'.length := by
          rw [← T'.1]
          exact hl
        refine ⟨.ref ad, by rw [List.getElem?_set_self hi], ?_⟩
        have sm := same_upd (o := EX (.ref C0) d ad) hn
        have rr := rr ad hn
        exact t _ ρ' _ _ (S'.grow sm) (E'.trans (Ext.grow S' sm)) ((((T'.mono (grow_same S'.same) (fun _ _ h => h)).set rr).set rr).unset)
      · rw [hb] at t
        simp only [Bool.false_eq_true, if_false] at t
        exact t _ _ σ' ρ' G' H' S' E' T' rx
    intro cls d σ' ρ' G' H' S' E' T' rx
    rcases fs with _ | ⟨⟨f, yv⟩, _ | ⟨fz, fs⟩⟩
    · have rx' := rx
      obtain ⟨k0, x0, C0, k1, k2, rfl, rfl⟩ := rx
      exact main C0 x0 none σ' ρ' G' H' (.inl k0) k1 k2 S' E' T' rx' fun ad hn => Rep.exc k0 k1 k2 (.inl (grow_up hn ex_ne_tbl))
    · have rx' := rx
      obtain ⟨k0, x0, C0, dd, v, k1, k2, rfl, rfl, k3, k4⟩ := rx
      exact main C0 x0 (some dd) σ' ρ' G' H' (.inr ⟨f, k0⟩) k1 k2 S' E' T' rx' fun ad hn => Rep.excF k0 k1 k2 (grow_up hn ex_ne_tbl) (grow_same S'.same _ _ k3) (Rep.mono (grow_same S'.same) k4)
    · exact False.elim rx
theorem fPar_inv {is : List Nat} {st : Stmt} {kk : List Expr → Bool} (h : fPar S is st kk = true) :
    (∃ i j x y px py a b j1 p1 j2 p2 p3, is = [i, j] ∧ st = .Assign [.Tuple [.Name x px, .Name y py] j1 p1] (.Tuple [a, b] j2 p2) p3 ∧ i ≠ j ∧ (S.N[i]? == some x) = true ∧ S.loc x = true ∧ (S.N[j]? == some y) = true ∧ S.loc y = true ∧ swOk S [.Name x px, .Name y py] [a, b] = true ∧ kk [a, b] = true) ∨
    (∃ i j l x y z px py pz a b d j1 p1 j2 p2 p3, is = [i, j, l] ∧ st = .Assign [.Tuple [.Name x px, .Name y py, .Name z pz] j1 p1] (.Tuple [a, b, d] j2 p2) p3 ∧ i ≠ j ∧ i ≠ l ∧ j ≠ l ∧ (S.N[i]? == some x) = true ∧ S.loc x = true ∧ (S.N[j]? == some y) = true ∧ S.loc y = true ∧ (S.N[l]? == some z) = true ∧ S.loc z = true ∧ swOk S [.Name x px, .Name y py, .Name z pz] [a, b, d] = true ∧ kk [a, b, d] = true) := by
  unfold fPar at h
  split at h
  · rename_i x y j1 p1 vs j2 p2 p3
    split at h
    · rename_i i j
      simp only [Bool.and_eq_true, decide_eq_true_eq] at h
      obtain ⟨⟨⟨⟨⟨h1, h2⟩, h3⟩, h4⟩, h5⟩, h6⟩ := h
      obtain ⟨x, px, rfl, q1, q2⟩ := fPv_inv h2
      obtain ⟨y, py, rfl, q3, q4⟩ := fPv_inv h3
      rcases vs with _ | ⟨a, _ | ⟨b, _ | ⟨d, vs⟩⟩⟩ <;> first | (simp at h5; done) | skip
      exact .inl ⟨_, _, _, _, _, _, _, _, _, _, _, _, _, rfl, rfl, h1, q1, q2, q3, q4, h4, h6⟩
    · cases h
  · rename_i x y z j1 p1 vs j2 p2 p3
    split at h
    · rename_i i j l
      simp only [Bool.and_eq_true, decide_eq_true_eq] at h
      obtain ⟨⟨⟨⟨⟨⟨⟨⟨h1, h1b⟩, h1c⟩, h2⟩, h3⟩, h3b⟩, h4⟩, h5⟩, h6⟩ := h
      obtain ⟨x, px, rfl, q1, q2⟩ := fPv_inv h2
      obtain ⟨y, py, rfl, q3, q4⟩ := fPv_inv h3
      obtain ⟨z, pz, rfl, q5, q6⟩ := fPv_inv h3b
      rcases vs with _ | ⟨a, _ | ⟨b, _ | ⟨d, _ | ⟨e, vs⟩⟩⟩⟩ <;> first | (simp at h5; done) | skip
      exact .inr ⟨_, _, _, _, _, _, _, _, _, _, _, _, _, _, _, _, _, rfl, rfl, h1, h1b, h1c, q1, q2, q3, q4, q5, q6, h4, h6⟩
    · cases h
  · cases h
theorem Slots.setLs {G : Hp} {ρ : Rho} : ∀ {is : List Nat} {ws : List W} {vs : List V} {ν ν' : List (Option W)} {σ : L2.St}, Slots Γ G ρ ν σ → RepWs Γ G ρ ws vs → Ip.setL is ws ν = some ν' → Slots Γ G ρ ν' ((is.zip vs).foldl (fun s p => s.set p.1 (some p.2)) σ)
  | [], [], _, ν, ν', σ, T, .nil, h => by cases h; exact T
  | i :: is, w :: ws, _, ν, ν', σ, T, .cons r rs, h => Slots.setLs (is := is) (ws := ws) (T.set r) rs h
  | [], _ :: _, _, _, _, _, _, .cons _ _, h => by cases h
  | _ :: _, [], _, _, _, _, _, .nil, h => by cases h
/-- several stores, read -/
theorem par_read {is : List Nat} {es : Ex} {D : Ends} {σ : L2.St} {H : Hp} {Q : List V → Hp → Prop} (hq : ∀ (vs : List V) (H1 : Hp) (G1 : Hp), Same G1 H1 → vs.length = is.length → (∀ H2, Same H1 H2 → D.nx ((is.zip vs).foldl (fun s p => s.set p.1 (some p.2)) σ) H2) → Q vs H1)
    (t : tS Γ Z (sx c (.par is es)) D σ H) : tA Γ Z (evl c es) σ H Q := by
  obtain ⟨ν, η, ρ, G, Sm, T, t⟩ := t
  refine ⟨ν, η, ρ, G, Sm, T, FinS.ofE T (show FinS Γ Z D ρ G η H (O.ofE ν (evl c es ν η) fun ws h' => match setL is ws ν with
    | some ν' => .nx ν' h'
    | none => .bad) from t) _ fun ws ρ1 G1 η1 H1 S1 E1 h1 vs rs => ?_⟩
  cases e : setL is ws ν with
  | none => rw [e] at h1; exact FinS.badE h1
  | some ν' =>
    rw [e] at h1
    have hl : ∀ {is : List Nat} {ws : List W} {ν ν' : List (Option W)}, setL is ws ν = some ν' → ws.length = is.length := fun {is} => by
      induction is with
      | nil => intro ws ν ν' h; cases ws with
        | nil => rfl
        | cons _ _ => cases h
      | cons i is ih => intro ws ν ν' h; cases ws with
        | nil => cases h
        | cons w ws => simp [ih h]
    refine hq vs H1 G1 S1.same (by rw [rs.length, hl e]) fun H2 sm => ?_
    exact h1 _ ρ1 (grow G1 H1 H2) H2 (S1.grow sm) (Ext.grow S1 sm) (((T.mono E1.same E1.rho).mono (grow_same S1.same) (fun _ _ h => h)).setLs (rs.mono (grow_same S1.same) (fun _ _ h => h)) e)
theorem snd_par (hE : ∀ x, SndE Γ B c x) {is : List Nat} {es : Ex} : SndS Γ B c (.par is es) := by
  intro S k Z X g hkd hp
  refine ⟨fun st h => ?_, fun sts h => (by cases h)⟩
  have hbk : X.env.blockKind = .function := by unfold Env.blockKind; rw [hkd.kd]; rfl
  have hks : ∀ x, X.env.kindOf x = S.knd x := fun x => by show X.env.scope.names.lookup x = _; rw [g.sc]; rfl
  have nd : X.N.Nodup := by rw [g.N]; exact g.nd
  have loc1 : ∀ {x : Str}, (S.knd x == some .local) = true → X.env.scope.names.lookup x = some .local := fun {x} h => by
    have := hks x
    rw [beq_iff_eq.mp h] at this
    exact this
  rcases fPar_inv (show fPar S is st (okL B es S) = true from h) with ⟨i, j, x, y, px, py, a, b, j1, p1, j2, p2, p3, rfl, rfl, hij, h1, h2, h3, h4, h5, h6⟩ | ⟨i, j, l, x, y, z, px, py, pz, a, b, d, j1, p1, j2, p2, p3, rfl, rfl, hij, hil, hjl, h1, h2, h3, h4, h7, h8, h5, h6⟩
  · have A := (hE es S k Z X g).2.1 _ h6
    have st := A.stars
    simp only [List.all_cons, List.all_nil, Bool.and_eq_true, Bool.and_true] at st
    unfold swOk at h5
    cases e : swp S [.Name x px, .Name y py] [a, b] with
    | none => rw [e] at h5; cases h5
    | some r =>
      have hw := swp_ok (j1 := j1) (p1 := p1) (j2 := j2) (p2 := p2) hbk hks e
      cases r with
      | none =>
        obtain ⟨l1, l2⟩ := g.loc h2
        obtain ⟨l3, l4⟩ := g.loc h4
        have P := ps_asg (pos := p3) (pe_tup A.pa) (pg_tup (X := X) (k := j1) (pos := p1) (n := 2) g.calm (pgs_cons (pg_name (pos := px) nd (g.ix h1) l1 l2) (pgs_cons (pg_name (pos := py) nd (g.ix h3) l3 l4) pgs_nil))) (by rfl) hw
        refine PS.imp P fun D σ H t => ?_
        refine par_read (fun vs H1 G1 sm hl q => ?_) t
        rcases vs with _ | ⟨v1, _ | ⟨v2, _ | ⟨v3, vs⟩⟩⟩ <;> first | (simp at hl; done) | skip
        exact ⟨by rw [hsz]; simp only [List.length_cons, List.length_nil]; decide, fun p hp => ⟨p, _, rfl, SqT.of (upd_same), rfl, _, _, rfl, _, _, rfl, rfl, q _ (same_upd hp)⟩⟩
      | some ns =>
        rw [e] at h5
        simp only [Bool.and_eq_true, decide_eq_true_eq, List.all_cons, List.all_nil, Bool.and_true, isLocN] at h5
        obtain ⟨hns, hx, hy⟩ := h5
        subst hns
        have P := ps_par (pos := p3) (px := px) (py := py) (kt := j1) (pt := p1) (k2 := j2) (pt2 := p2) g.calm nd (g.ix h1) (g.ix h3) hij (loc1 hx) (loc1 hy) A.pa hw
        refine PS.imp P fun D σ H t => ?_
        refine par_read (fun vs H1 G1 sm hl q => ?_) t
        rcases vs with _ | ⟨v1, _ | ⟨v2, _ | ⟨v3, vs⟩⟩⟩ <;> first | (simp at hl; done) | skip
        exact ⟨v1, v2, rfl, q _ (Same.refl _)⟩
  · have A := (hE es S k Z X g).2.1 _ h6
    unfold swOk at h5
    cases e : swp S [.Name x px, .Name y py, .Name z pz] [a, b, d] with
    | none => rw [e] at h5; cases h5
    | some r =>
      have hw := swp_ok (j1 := j1) (p1 := p1) (j2 := j2) (p2 := p2) hbk hks e
      cases r with
      | none =>
        obtain ⟨l1, l2⟩ := g.loc h2
        obtain ⟨l3, l4⟩ := g.loc h4
        obtain ⟨l5, l6⟩ := g.loc h8
        have P := ps_asg (pos := p3) (pe_tup A.pa) (pg_tup (X := X) (k := j1) (pos := p1) (n := 3) g.calm (pgs_cons (pg_name (pos := px) nd (g.ix h1) l1 l2) (pgs_cons (pg_name (pos := py) nd (g.ix h3) l3 l4) (pgs_cons (pg_name (pos := pz) nd (g.ix h7) l5 l6) pgs_nil)))) (by rfl) hw
        refine PS.imp P fun D σ H t => ?_
        refine par_read (fun vs H1 G1 sm hl q => ?_) t
        rcases vs with _ | ⟨v1, _ | ⟨v2, _ | ⟨v3, _ | ⟨v4, vs⟩⟩⟩⟩ <;> first | (simp at hl; done) | skip
        exact ⟨by rw [hsz]; simp only [List.length_cons, List.length_nil]; decide, fun p hp => ⟨p, _, rfl, SqT.of (upd_same), rfl, _, _, rfl, _, _, rfl, _, _, rfl, rfl, q _ (same_upd hp)⟩⟩
      | some ns =>
        rw [e] at h5
        simp only [Bool.and_eq_true, decide_eq_true_eq, List.all_cons, List.all_nil, Bool.and_true, isLocN] at h5
        obtain ⟨hns, hx, hy, hz⟩ := h5
        subst hns
        have P := ps_par3 (pos := p3) (px := px) (py := py) (pz := pz) (kt := j1) (pt := p1) (k2 := j2) (pt2 := p2) g.calm nd (g.ix h1) (g.ix h3) (g.ix h7) hij hil hjl (loc1 hx) (loc1 hy) (loc1 hz) A.pa hw
        refine PS.imp P fun D σ H t => ?_
        refine par_read (fun vs H1 G1 sm hl q => ?_) t
        rcases vs with _ | ⟨v1, _ | ⟨v2, _ | ⟨v3, _ | ⟨v4, vs⟩⟩⟩⟩ <;> first | (simp at hl; done) | skip
        exact ⟨v1, v2, v3, rfl, q _ (Same.refl _)⟩
end
end Ip

set_option Elab.async false
set_option linter.all false
set_option maxRecDepth 100000
set_option maxHeartbeats 400000
/-! IpLoop: for, while. -/
namespace Ip
open PySem PySem.Spec PyProof.Rows L2
section
variable {Γ : Env} {B : Tb} {c : Cfg} {S : SC} {k : Nat} {Z : WX} {X : Cx}
theorem fFor_inv {ik : Ik} {pt : Pt} {st : Stmt} {kI : List Expr → Bool} {kb : List Stmt → Bool} (h : fFor S ik pt st kI kb = true) : ∃ tg iter body pos, st = .For tg iter body [] pos ∧ okP S pt tg = true ∧ fIt S ik tg iter kI = true ∧ kb body = true := by
  unfold fFor at h
  split at h
  · simp only [Bool.and_eq_true] at h
    exact ⟨_, _, _, _, rfl, h.1.1, h.1.2, h.2⟩
  · cases h
theorem fWhl_inv {st : Stmt} {k1 : Expr → Bool} {kb : List Stmt → Bool} (h : fWhl st k1 kb = true) : ∃ t body pos, st = .While t body [] pos ∧ k1 t = true ∧ kb body = true := by
  unfold fWhl at h
  split at h
  · simp only [Bool.and_eq_true] at h
    exact ⟨_, _, _, rfl, h.1, h.2⟩
  · cases h
theorem loopS_nil {ik : Ik} {ws : List W} {sn : Snap} {f : W → List (Option W) → Hv → O} {ν : List (Option W)} {h : Hv} : loopS ik ws sn f [] ν h = if snap ik ws h = some sn then .nx ν h else .bad := rfl
theorem loopS_cons {ik : Ik} {ws : List W} {sn : Snap} {f : W → List (Option W) → Hv → O} {x : W} {xs : List W} {ν : List (Option W)} {h : Hv} : loopS ik ws sn f (x :: xs) ν h = if snap ik ws h = some sn then (match f x ν h with
    | .nx ν' h' => loopS ik ws sn f xs ν' h'
    | .cnt ν' h' => loopS ik ws sn f xs ν' h'
    | .brk ν' h' => .nx ν' h'
    | o => o) else .bad := rfl
/-- the evaluator's turn of a for -/
def turnS (c : Cfg) (pt : Pt) (b : Sm) : W → List (Option W) → Hv → O := fun x ν h => match bindP pt x ν with
  | some ν' => sx c b ν' h
  | none => .bad
theorem snd_for (hE : ∀ x, SndE Γ B c x) {ik : Ik} {pt : Pt} {it : Ex} {b : Sm} (ihb : SndS Γ B c b) : SndS Γ B c (.forr ik pt it b) := by
  intro S k Z X g hkd hp
  refine ⟨fun st h => ?_, fun sts h => (by cases h)⟩
  obtain ⟨tg, iter, body, pos, rfl, h1, h2, h3⟩ := fFor_inv (show fFor S ik pt st (okL B it S) (okB B b S) = true from h)
  obtain ⟨p1, p2⟩ := it_ok g (hE it S k Z X g).2.1 h2
  refine PS.imp (ps_for hp g.calm p1 (pg_ok g h1) ((ihb S k Z X g hkd hp).2 _ h3) p2) fun D σ H t => ?_
  obtain ⟨ν, η, ρ, G, S0, T0, t⟩ := t
  refine ⟨ν, η, ρ, G, S0, T0, ?_⟩
  have t : FinS Γ Z D ρ G η H (O.ofE ν (itM ik (evl c it) ν η) fun q h' => loopS ik q.1 q.2.1 (turnS c pt b) q.2.2 ν h') := t
  have key : ∀ (q : List W × Snap × List W) (ρ1 : Rho) (G1 : Hp) (η1 : Hv) (H1 : Hp), Sim Γ ρ1 G1 η1 H1 → Slots Γ G1 ρ1 ν σ → FinS Γ Z D ρ1 G1 η1 H1 (loopS ik q.1 q.2.1 (turnS c pt b) q.2.2 ν η1) →
      ∀ vs, RepWs Γ G1 ρ1 q.1 vs → CS Γ vs q.2.1 G1 ρ1 H1 → ∀ J, Wlk Γ (CS Γ vs q.2.1) q.2.2 J → ∃ W : Nat → Nat → L2.St → Hp → Prop, (∃ m, W 0 m σ H1) ∧ ∀ i m σ H, W i m σ H →
        (J.stop i H ∧ D.nx σ H) ∨ (J.go i H ∧ ∃ N : L2.St → Hp → Prop, (∀ σ' H', N σ' H' → ∃ m', m' < m ∧ W (i + 1) m' σ' H') ∧ ∀ x H', J.yld i H x H' → gB Γ pt x σ H' fun σ2 H2 => tS Γ Z (sx c b) { D with nx := N, ct := N, bk := D.nx } σ2 H2) := by
    rintro ⟨ws, sn, its⟩ ρ1 G1 η1 H1 S1 T1 t1 vs ru cs J hJ
    simp only at t1 ru cs hJ
    refine ⟨fun i m σ H => m = its.length - i ∧ i ≤ its.length ∧ ∃ ν' η' ρ' G', Sim Γ ρ' G' η' H ∧ Slots Γ G' ρ' ν' σ ∧ Ext ρ1 G1 η1 H1 ρ' G' η' H ∧ FinS Γ Z D ρ' G' η' H (loopS ik ws sn (turnS c pt b) (its.drop i) ν' η'), ⟨its.length, by simp, Nat.zero_le _, ν, η1, ρ1, G1, S1, T1, Ext.refl _ _ _ _, by rw [List.drop_zero]; exact t1⟩, ?_⟩
    rintro i m σ' H' ⟨rfl, hi, ν', η', ρ', G', S', T', E', t'⟩
    have rus : RepWs Γ G' ρ' ws vs := ru.mono E'.same E'.rho
    by_cases hlt : i < its.length
    · rw [List.drop_eq_getElem_cons hlt, loopS_cons] at t'
      by_cases hsn : snap ik ws η' = some sn
      · rw [if_pos hsn] at t'
        have cs' := snap_ok S' rus hsn
        refine .inr ⟨hJ.goes i G' ρ' H' hlt S'.same cs', _, fun σ'' H'' w => ⟨its.length - (i + 1), by omega, w⟩, fun x H2 y => ?_⟩
        obtain ⟨w, hw, sm, rw_⟩ := hJ.yields i G' ρ' H' x H2 hlt S'.same cs' y
        have ew : w = its[i] := by simpa [hlt] using hw.symm
        subst ew
        have S2 := S'.grow sm
        have E2 := Ext.grow S' sm
        have T2 := T'.mono E2.same E2.rho
        unfold turnS at t'
        cases eb : bindP pt its[i] ν' with
        | none => rw [eb] at t'; exact FinS.badE t'
        | some ν2 =>
          rw [eb] at t'
          simp only at t'
          refine ⟨ν', ρ', _, its[i], ν2, T2, S2.same, rw_, eb, fun σ2 _ _ T3 => ⟨ν2, η', ρ', _, S2, T3, ?_⟩⟩
          have t3 := FinS.step E2 t'
          cases e : sx c b ν2 η' with
          | nx ν3 η3 =>
            rw [e] at t3
            exact fun σ3 ρ3 G3 H3 S3 E3 T4 => ⟨rfl, hlt, ν3, η3, ρ3, G3, S3, T4, E'.trans (E2.trans E3), FinS.step E3 t3⟩
          | cnt ν3 η3 =>
            rw [e] at t3
            exact fun σ3 ρ3 G3 H3 S3 E3 T4 => ⟨rfl, hlt, ν3, η3, ρ3, G3, S3, T4, E'.trans (E2.trans E3), FinS.step E3 t3⟩
          | brk ν3 η3 => rw [e] at t3; exact t3
          | ret w3 η3 => rw [e] at t3; exact t3
          | exc x3 ν3 η3 => rw [e] at t3; exact t3
          | bad => rw [e] at t3; exact FinS.badE t3
      · rw [if_neg hsn] at t'
        exact FinS.badE t'
    · have ei : i = its.length := by omega
      subst ei
      rw [List.drop_length, loopS_nil] at t'
      by_cases hsn : snap ik ws η' = some sn
      · rw [if_pos hsn] at t'
        exact .inl ⟨hJ.stops G' ρ' H' S'.same (snap_ok S' rus hsn), t' σ' ρ' G' H' S' (Ext.refl _ _ _ _) T'⟩
      · rw [if_neg hsn] at t'
        exact FinS.badE t'
  cases e : itM ik (evl c it) ν η with
  | ok q η1 =>
    rw [e] at t
    exact fun ρ1 G1 H1 S1 E1 vs ru cs J hJ => key q ρ1 G1 η1 H1 S1 (T0.mono E1.same E1.rho) (FinS.step E1 t) vs ru cs J hJ
  | exc x η1 =>
    rw [e] at t
    exact fun cls d ρ' G' H' S' E' r => t cls d σ ρ' G' H' S' E' (T0.mono E'.same E'.rho) r
  | bad => rw [e] at t; exact FinS.badE t
theorem snd_whl (hE : ∀ x, SndE Γ B c x) {t : Ex} {b : Sm} (ihb : SndS Γ B c b) : SndS Γ B c (.whl t b) := by
  intro S k Z X g hkd hp
  refine ⟨fun st h => ?_, fun sts h => (by cases h)⟩
  obtain ⟨te, body, pos, rfl, h1, h2⟩ := fWhl_inv (show fWhl st (okE B t S) (okB B b S) = true from h)
  refine PS.imp (ps_while hp ((hE t S k Z X g).1 _ h1).2 ((ihb S k Z X g hkd hp).2 _ h2)) fun D σ H q => ?_
  obtain ⟨ν, η, ρ, G, S0, T0, q⟩ := q
  refine ⟨fun m σ H => ∃ ν η ρ G, Sim Γ ρ G η H ∧ Slots Γ G ρ ν σ ∧ FinS Γ Z D ρ G η H (loopW (ev c t) (sx c b) m ν η), ⟨c.fuel, ν, η, ρ, G, S0, T0, q⟩, ?_⟩
  rintro m σ1 H1 ⟨ν1, η1, ρ1, G1, S1, T1, q1⟩
  cases m with
  | zero => exact FinS.badE q1
  | succ m =>
    refine ⟨ν1, η1, ρ1, G1, S1, T1, FinS.ofE T1 (show FinS Γ Z D ρ1 G1 η1 H1 (O.ofE ν1 (ev c t ν1 η1) fun w h' => match w with
      | .d (.bl true) => (match sx c b ν1 h' with
        | .nx ν' h'' => loopW (ev c t) (sx c b) m ν' h''
        | .cnt ν' h'' => loopW (ev c t) (sx c b) m ν' h''
        | .brk ν' h'' => .nx ν' h''
        | o => o)
      | .d (.bl false) => .nx ν1 h'
      | _ => .bad) from q1) _ fun w ρ2 G2 η2 H2 S2 E2 q2 => ?_⟩
    have T2 := T1.mono E2.same E2.rho
    rcases w with d | n | ⟨l, cs⟩
    · cases d <;> first | exact FinS.badE q2 | skip
      rename_i kk
      refine ⟨kk, rfl, ?_⟩
      cases kk with
      | false => exact q2 σ1 ρ2 G2 H2 S2 (Ext.refl _ _ _ _) T2
      | true =>
        rw [if_pos rfl]
        simp only at q2
        refine ⟨fun σ' H' => ∃ ν η ρ G, Sim Γ ρ G η H' ∧ Slots Γ G ρ ν σ' ∧ FinS Γ Z D ρ G η H' (loopW (ev c t) (sx c b) m ν η), fun σ' H' w => ⟨m, Nat.lt_succ_self m, w⟩, ν1, η2, ρ2, G2, S2, T2, ?_⟩
        cases e : sx c b ν1 η2 with
        | nx ν3 η3 =>
          rw [e] at q2
          exact fun σ3 ρ3 G3 H3 S3 E3 T4 => ⟨ν3, η3, ρ3, G3, S3, T4, FinS.step E3 q2⟩
        | cnt ν3 η3 =>
          rw [e] at q2
          exact fun σ3 ρ3 G3 H3 S3 E3 T4 => ⟨ν3, η3, ρ3, G3, S3, T4, FinS.step E3 q2⟩
        | brk ν3 η3 => rw [e] at q2; exact q2
        | ret w3 η3 => rw [e] at q2; exact q2
        | exc x3 ν3 η3 => rw [e] at q2; exact q2
        | bad => rw [e] at q2; exact FinS.badE q2
    · exact FinS.badE q2
    · exact FinS.badE q2
theorem sndS (hB1 : Γ.gs = B.gs) (hB2 : Γ.ft = B.ft) (hB3 : Γ.ks = B.ks) (hB4 : Γ.pl = B.pl) (hB5 : Γ.xi = B.xi) (hB6 : Γ.kw = B.kw) (b : Sm) : SndS Γ B c b := by
  have hE : ∀ x, SndE Γ B c x := sndE hB1 hB2 hB3 hB4 hB5 hB6
  induction b with
  | sk => exact snd_sk
  | sq a b iha ihb => exact snd_sq iha ihb
  | asg i e => exact snd_asg hE
  | asgp p e => exact snd_asgp hE
  | ife t a b iha ihb => exact snd_ife hE iha ihb
  | ret e => exact snd_ret hE
  | exp e => exact snd_exp hE
  | dset a ky e => exact snd_dset hE
  | brk => exact snd_brk
  | cnt => exact snd_cnt
  | forr ik pt it b ih => exact snd_for hE ih
  | whl t b ih => exact snd_whl hE ih
  | rais e => exact snd_rais hB1 hB4 hB5 hE
  | par is es => exact snd_par hE
  | tryw b k i a ih _ => exact snd_try hB1 hB4 hB5 ih
end
end Ip

set_option Elab.async false
set_option linter.all false
set_option maxRecDepth 100000
set_option maxHeartbeats 400000
/-! IpFun: defs. -/
namespace Ip
open PySem PySem.Spec PyProof.Rows L2

/-- a def: its name, its parameters, its slots' names, its small form -/
structure FDef where
  x : Str
  ps : List Str
  N : List Str
  sm : Sm
  /-- the name of its lambdas, if it makes any -/
  lm : Option Str
def startV (N : List Str) (ws : List W) : List (Option W) := ws.map some ++ List.replicate (N.length - ws.length) none
def runF (c : Cfg) (d : FDef) (ws : List W) : M W := fun η => match sx c d.sm (startV d.N ws) η with
  | .ret w h => .ok w h
  | .nx _ h => .ok (.d .non) h
  | .exc e _ h => .exc e h
  | _ => .bad
/-- with data alone: on a heap of its own -/
def pureF (c : Cfg) (d : FDef) (ws : List W) : M W := fun η => match dats ws with
  | some _ => (match runF c d ws [] with
    | .ok (.d x) _ => .ok (.d x) η
    | .exc e _ => .exc e η
    | _ => .bad)
  | none => .bad
def callF (c : Cfg) (d : FDef) : Nat → List W → M W
  | 0, ws => pureF c d ws
  | _ + 1, ws => runF c d ws
def cfgN (ds : List FDef) (sub : Nat → Nat → Bool) (xi : Nat → Option String) (fuel : Nat) : Nat → Cfg
  | 0 => { call := fun _ _ _ => M.bad, sub := sub, fuel := fuel, xi := xi }
  | n + 1 => { call := fun md i ws => match ds[i]? with
      | some d => callF (cfgN ds sub xi fuel n) d md ws
      | none => M.bad, sub := sub, fuel := fuel, xi := xi }
theorem cfgN_sub {ds : List FDef} {sub : Nat → Nat → Bool} {xi : Nat → Option String} {fuel n : Nat} : (cfgN ds sub xi fuel n).sub = sub := by cases n <;> rfl
theorem cfgN_xi {ds : List FDef} {sub : Nat → Nat → Bool} {xi : Nat → Option String} {fuel n : Nat} : (cfgN ds sub xi fuel n).xi = xi := by cases n <;> rfl
/-- the scope and the parameters fit -/
def okScope (N ps : List Str) (sc : Scope) : Bool :=
  (sc.kind == .function) && !sc.isCoroutine && !sc.isGenerator && decide N.Nodup && decide (N.take ps.length = ps) && ps.all (fun x => sc.names.lookup x == some .local || sc.names.lookup x == some .cell) && sc.names.all (fun y => y.2 != .free)
theorem scope_ok {N ps : List Str} {sc : Scope} (h : okScope N ps sc = true) : FnScope N ps sc := by
  simp only [okScope, Bool.and_eq_true, Bool.not_eq_true', decide_eq_true_eq, List.all_eq_true, Bool.or_eq_true, beq_iff_eq, bne_iff_ne] at h
  obtain ⟨⟨⟨⟨⟨⟨h1, h2⟩, h3⟩, h4⟩, h5⟩, h6⟩, h7⟩ := h
  exact ⟨h1, h2, h3, h4, h5, h6, h7⟩
section
variable {Γ : Env} {B : Tb} {c : Cfg} {ρ : Rho} {G H : Hp} {η : Hv}
theorem start_ok {N : List Str} {ws : List W} {vs : List V} (r : RepWs Γ G ρ ws vs) : Slots Γ G ρ (startV N ws) (L2.start N vs) := by
  have hl := r.length
  refine ⟨by unfold startV L2.start; simp [hl], fun i w hi => ?_⟩
  unfold startV at hi
  unfold L2.start
  by_cases h : i < ws.length
  · rw [List.getElem?_append_left (by simpa using h), List.getElem?_map] at hi
    rw [List.getElem?_append_left (by simp; omega), List.getElem?_map]
    cases e : ws[i]? with
    | none => rw [e] at hi; cases hi
    | some w' =>
      rw [e] at hi
      cases hi
      obtain ⟨v, h1, h2⟩ := RepWs.get r e
      exact ⟨v, by rw [h1]; rfl, h2⟩
  · rw [List.getElem?_append_right (by simpa using h), List.getElem?_replicate] at hi
    split at hi <;> cases hi
theorem RepWs.pure {G : Hp} {ρ ρ' : Rho} : ∀ {ws : List W} {vs : List V} {ds : List D}, RepWs Γ G ρ ws vs → dats ws = some ds → RepWs Γ G ρ' ws vs
  | _, _, _, .nil, _ => .nil
  | .d x :: ws, _, ds, .cons h r, e => by
    unfold dats at e
    cases q : dats ws with
    | none => rw [q] at e; cases e
    | some xs => exact .cons h (RepWs.pure r q)
  | .ref _ :: _, _, _, .cons _ _, e => by cases e
  | .clo _ _ :: _, _, _, .cons _ _, e => by cases e
/-- a pure call is a call -/
theorem sp_pure {n : Nat} {d : FDef} {vs : List V} {H : Hp} {Q : VK} {E : XK} (h : spF Γ n (pureF c d) vs H Q E) : spF Γ n (runF c d) vs H Q E := by
  obtain ⟨hn, ws, η, ρ, G, S, rw_, h⟩ := h
  refine ⟨hn, ws, [], fun _ => none, G, ⟨S.same, fun n o e => by simp at e, fun n m a h1 => by obtain ⟨o, e, _⟩ := h1; simp at e, fun _ _ => rfl, S.tab, S.ntb⟩, ?_⟩
  unfold pureF at h
  cases e : dats ws with
  | none => rw [e] at h; exact Fin.badE h
  | some ds =>
    rw [e] at h
    simp only at h
    refine ⟨RepWs.pure rw_ e, ?_⟩
    -- the caller's own objects behind the run
    have back : ∀ {ρ' : Rho} {G' H' : Hp} {η' : Hv}, Sim Γ ρ' G' η' H' → Ext (fun _ => none) G [] H ρ' G' η' H' → Sim Γ ρ G' η H' ∧ Ext ρ G η H ρ G' η H' := fun {ρ' G' H' η'} S' E' => by
      have nown : ∀ a, ¬ Own [] (fun _ => none) a := fun a ⟨m, ⟨o, h1, _⟩, _⟩ => by simp at h1
      have gn : ∀ m a o, η[m]? = some o → o ≠ .dead → ρ m = some a → G' a = none := fun m a o h1 h2 h3 => by
        obtain ⟨b, h4, h5, h6⟩ := (S.obj m o h1).at h2
        rw [h3] at h4; cases h4
        cases q : G' a with
        | none => rfl
        | some u =>
          rcases E'.fresh a (by rw [q]; simp) with z | z | z | ⟨xs, z⟩
          · exact absurd h5 z
          · exact absurd z h6
          · exact absurd z (nown a)
          · obtain ⟨b2, u', k1, k2, k3⟩ := (S.obj m o h1).kind h2
            rw [h3] at k1; cases k1
            rw [z] at k2; cases k2
            exact absurd k3 (fun y => y)
      refine ⟨⟨S'.same, fun m o h1 => ?_, S.inj, S.new, S'.tab, S'.ntb⟩, ⟨fun _ _ h => h, E'.same, fun a o h _ nt => E'.kept a o h (nown a) nt, E'.tbl, fun a h => ?_, fun a h => .inl h⟩⟩
      · by_cases hd : o = .dead
        · subst hd; trivial
        · refine (S.obj m o h1).move (fun _ _ q => q) E'.same (fun a ha => gn m a o h1 hd ha) fun a u ha hu => E'.kept a u hu (nown a) fun ps z => ?_
          obtain ⟨b, u', k1, k2, k3⟩ := (S.obj m o h1).kind hd
          rw [ha] at k1; cases k1
          rw [hu] at k2; cases k2
          rw [z] at k3; exact k3
      · rcases E'.fresh a h with z | z | z | z
        · exact .inl z
        · exact .inr (.inl z)
        · exact absurd z (nown a)
        · exact .inr (.inr (.inr z))
    cases q : runF c d ws [] with
    | ok w η' =>
      rw [q] at h
      cases w with
      | d x =>
        intro ρ' G' H' S' E' v rv
        obtain ⟨S2, E2⟩ := back S' E'
        exact h ρ G' H' S2 E2 v rv
      | ref m => exact Fin.badE h
      | clo l cs => exact Fin.badE h
    | exc x η' =>
      rw [q] at h
      intro cls dd ρ' G' H' S' E' rx
      obtain ⟨S2, E2⟩ := back S' E'
      exact h cls dd ρ G' H' S2 E2 rx
    | bad => rw [q] at h; exact Fin.badE h
theorem sp_mode {n : Nat} {d : FDef} {md : Nat} {vs : List V} {H : Hp} {Q : VK} {E : XK} (h : spF Γ n (callF c d md) vs H Q E) : spF Γ n (runF c d) vs H Q E := by
  cases md with
  | zero => exact sp_pure h
  | succ _ => exact h
/-- all defs of the program, as they stand behind the top -/
structure Defs (Γ : Env) (B : Tb) (ds : List FDef) (sub : Nat → Nat → Bool) (xi : Nat → Option String) : Prop where
  gs : Γ.gs = B.gs
  ft : Γ.ft = B.ft
  ks : Γ.ks = B.ks
  pl : Γ.pl = B.pl
  xe : Γ.xi = B.xi
  kwe : Γ.kw = B.kw
  fx : Facts Γ sub xi
  dt : B.ft = ds.map fun d => (d.x, d.ps.length)
  blt : ∀ x ∈ bltL, Γ.mg x = none
  gl : ∀ (j : Nat) (x : Str), Γ.gs[j]? = some x → ∃ a, Γ.mg x = some (.ref a)
  def_ : ∀ (i : Nat) (d : FDef), ds[i]? = some d → ∃ (f : Addr) (fd : FuncData) (st : Stmt), Γ.mg d.x = some (.ref f) ∧ FunD Γ.K d.x d.x (defArgs st) (defBody st) (defScope st) [] [] f fd ∧ Binds Γ.K fd d.ps [] ∧ okScope d.N d.ps (defScope st) = true ∧ okB B d.sm ⟨d.N, defScope st, none, d.lm⟩ (defBody st) = true ∧
    (∀ (ks : List Str) (pm : List Nat), (i, ks, pm) ∈ Γ.kw → ∀ (s : Shared) (us ws : List Value), Γ.K.In s.heap → us.length = d.ps.length → permL pm us = some ws → BindsTo s fd ⟨[], ks.zip us⟩ (d.ps.zip ws)) ∧
    ∀ q, d.lm = some q → ∃ c P, fd.code = .ref c ∧ LamX.TabB Γ.base Γ.mg c P ∧ d.x ++ ".<locals>." ++ "<lambda>" = q ∧ (P, q) ∈ Γ.T ∧ ∀ p ∈ Γ.T, p.1 = P → p.2 = q
/-- one def keeps its promise over the promises of all -/
theorem fn_ok {ds : List FDef} {sub : Nat → Nat → Bool} {xi : Nat → Option String} {fuel n : Nat} (D : Defs Γ B ds sub xi) (ih : Fns Γ (cfgN ds sub xi fuel n) (7 * n)) {d : FDef} {f : Addr} {fd : FuncData} {st : Stmt} (h2 : FunD Γ.K d.x d.x (defArgs st) (defBody st) (defScope st) [] [] f fd)
    (h4 : okScope d.N d.ps (defScope st) = true) (h5 : okB B d.sm ⟨d.N, defScope st, none, d.lm⟩ (defBody st) = true)
    (h6 : ∀ q, d.lm = some q → ∃ c P, fd.code = .ref c ∧ LamX.TabB Γ.base Γ.mg c P ∧ d.x ++ ".<locals>." ++ "<lambda>" = q ∧ (P, q) ∈ Γ.T ∧ ∀ p ∈ Γ.T, p.1 = P → p.2 = q) :
    FnG Γ.P Γ.w Γ.K Γ.mg Γ.base (L2.CX Γ.P Γ.w) (7 * (n + 1)) f fd d.ps (spF Γ d.ps.length (runF (cfgN ds sub xi fuel n) d)) := by
  obtain ⟨oc, od, dV, kV, doc, pm, an, cdv, ct, osl, rfl, lk, hcd, _, _⟩ := h2.ex
  refine ⟨fun vs H Q E q => q.1, fun A outer s H args us vs Q E hr hgd e0 hb r hsp => LamX.run_ofS (k := 7 * n + 6) lk hcd (scope_ok h4) (by show Room (7 * (n + 1)) A; exact hr) e0 hb r hsp.1 fun hr => ?_⟩
  have g : Gd Γ (cfgN ds sub xi fuel n) ⟨d.N, defScope st, none, d.lm⟩ (7 * n) (fun cls dd _ H => E cls dd H) (cxOf (L2.CX Γ.P Γ.w) Γ.P Γ.w Γ.K Γ.mg Γ.base d.N d.x (defScope st) f cdv A outer s H E) :=
    ⟨rfl, rfl, rfl, rfl, rfl, rfl, (scope_ok h4).nd, rfl, fun _ => rfl, rfl, hr.mono (by unfold SC.up; split <;> omega), takes_of rfl rfl rfl rfl, ih, hgd, fun q hq => h6 q hq⟩
  refine ⟨_, ((sndS D.gs D.ft D.ks D.pl D.xe D.kwe d.sm) _ (7 * n) _ _ g ⟨(scope_ok h4).kind, rfl, rfl⟩ (passes_of rfl)).2 _ h5, ?_⟩
  obtain ⟨hn, ws, η, ρ, G, S, rw_, q⟩ := hsp
  refine ⟨startV d.N ws, η, ρ, G, S, start_ok rw_, ?_⟩
  unfold runF at q
  cases es : sx (cfgN ds sub xi fuel n) d.sm (startV d.N ws) η with
  | ret w η' => rw [es] at q; exact fun v ρ' G' H' S' E' rv => q ρ' G' H' S' E' v rv
  | nx ν' η' => rw [es] at q; exact fun σ' ρ' G' H' S' E' _ => q ρ' G' H' S' E' .non .non
  | exc x ν' η' => rw [es] at q; exact fun cls dd σ' ρ' G' H' S' E' _ rx => q cls dd ρ' G' H' S' E' rx
  | brk ν' η' => rw [es] at q; exact Fin.badE q
  | cnt ν' η' => rw [es] at q; exact Fin.badE q
  | bad => rw [es] at q; exact Fin.badE q
/-- every def keeps its promise, at every depth -/
theorem fnsN {ds : List FDef} {sub : Nat → Nat → Bool} {xi : Nat → Option String} {fuel : Nat} (D : Defs Γ B ds sub xi) : ∀ n, Fns Γ (cfgN ds sub xi fuel n) (7 * n) := by
  intro n
  induction n with
  | zero =>
    refine ⟨fun i x m h => ?_, D.blt, D.gl, D.fx⟩
    rw [D.ft, D.dt, List.getElem?_map] at h
    cases e : ds[i]? with
    | none => rw [e] at h; cases h
    | some d =>
      rw [e] at h
      cases h
      obtain ⟨f, fd, st, h1, h2, h3, h4, h5, h6, h7⟩ := D.def_ i d e
      refine ⟨f, fd, d.ps, rfl, h1, h2.kp, h3, h6, fun md => ⟨fun vs H Q E q => ?_, fun A outer s H args us vs Q E _ _ _ _ _ q => ?_⟩⟩
      · obtain ⟨_, ws, η, ρ, G, S, rw_, q⟩ := q
        exact Fin.badE q
      · obtain ⟨_, ws, η, ρ, G, S, rw_, q⟩ := q
        exact Fin.badE q
  | succ n ih =>
    refine ⟨fun i x m h => ?_, D.blt, D.gl, D.fx⟩
    rw [D.ft, D.dt, List.getElem?_map] at h
    cases e : ds[i]? with
    | none => rw [e] at h; cases h
    | some d =>
      rw [e] at h
      cases h
      obtain ⟨f, fd, st, h1, h2, h3, h4, h5, h6, h7⟩ := D.def_ i d e
      refine ⟨f, fd, d.ps, rfl, h1, h2.kp, h3, h6, fun md => ?_⟩
      have ec : (cfgN ds sub xi fuel (n + 1)).call md i = callF (cfgN ds sub xi fuel n) d md := by
        funext ws
        show (match ds[i]? with
          | some d => callF (cfgN ds sub xi fuel n) d md ws
          | none => M.bad) = _
        rw [e]
      rw [ec]
      refine FnG.imp (sp := spF Γ d.ps.length (runF (cfgN ds sub xi fuel n) d)) ?_ fun vs H Q E q => sp_mode q
      exact fn_ok D ih h2 h4 h5 h7
end
end Ip

set_option Elab.async false
set_option linter.all false
set_option maxRecDepth 100000
set_option maxHeartbeats 400000
/-! IpHx: looks for exceptions with an attribute. -/
namespace Ip
open PySem PySem.Spec PyProof.Rows L2
open He (ga ma)
theorem oexB_ok {K : PySem.W.Frag} {C : Addr} (h : oexB K C = true) : OexC K C := by
  unfold oexB at h
  simp only [Bool.and_eq_true, decide_eq_true_eq] at h
  obtain ⟨⟨⟨⟨h1, h2⟩, h3⟩, h4⟩, h5⟩ := h
  refine ⟨?_, h2, h3, h4, h5⟩
  split at h1
  · rename_i t dd nm bs c bm N q sn sub ab col k0 k1 k2 k3 id k5 e
    simp only [Bool.and_eq_true, decide_eq_true_eq] at h1
    obtain ⟨⟨⟨rfl, rfl⟩, h6⟩, rfl⟩ := h1
    exact ⟨nm, q, N, bs, bm, sn, sub, ab, col, dd, k0, k1, k2, k3, k5, e, h6⟩
  · cases h1
theorem xicB_ok {K : PySem.W.Frag} {C : Addr} {f : Str} (h : xicB K C f = true) : XiC K C f := by
  unfold xicB at h
  simp only [Bool.and_eq_true, decide_eq_true_eq] at h
  obtain ⟨h1, h2, h3, h4, h5, h6, h7⟩ := h
  exact ⟨oexB_ok h1, h2, h3, h4, h5, h6, h7⟩
theorem xifB_ok {P : Program} {K : PySem.W.Frag} {C fI : Addr} {f : Str} (h : xifB P K C fI f = true) : ∃ fd, XiF P K C fI f fd := by
  unfold xifB at h
  split at h
  · rename_i oc od nm qual params body scope gl n0 cc doc pm an cda ct bn osl e
    simp only [Bool.and_eq_true, decide_eq_true_eq] at h
    obtain ⟨rfl, rfl, rfl, rfl, h1, h2, h3, h4, h5, h6⟩ := h
    refine ⟨_, ⟨oc, od, qual, params, body, scope, doc, pm, an, cda, ct, osl, cc, rfl, e, h1, h2, h3, h4, ?_, ?_⟩⟩
    · unfold cellB at h5
      split at h5
      · rename_i e5
        have h5 := of_decide_eq_true h5
        subst h5
        exact ⟨_, _, _, e5⟩
      · cases h5
    · unfold codeB at h6
      split at h6
      · rename_i e6
        split at h6
        · rename_i e7
          exact ⟨_, _, _, _, _, _, e6, e7, h6⟩
        · cases h6
      · cases h6
  · cases h
theorem sysB_ok {K : PySem.W.Frag} (h : sysB K = true) : SysD K := by
  unfold sysB at h
  split at h
  · rename_i e
    exact ⟨_, _, _, e, rfl⟩
  · cases h
end Ip

set_option Elab.async false
set_option linter.all false
set_option maxRecDepth 100000
set_option maxHeartbeats 400000
/-! IpHd: the facts of the written part, as one look. -/
namespace Ip
open PySem PySem.Spec PyProof.Rows L2
open He (ga Fa)

theorem excB_ok {K : PySem.W.Frag} {D : Addr} (h : excB K D = true) : ExcC K D := by
  unfold excB at h
  simp only [Bool.and_eq_true, decide_eq_true_eq] at h
  obtain ⟨h1, h2, h3, h4, h5, h6, h7, h8⟩ := h
  exact ⟨h1, h2, h3, h4, h5, h6, h7, h8⟩
theorem incB_lt : ∀ {l : List Nat} {i j a b : Nat}, incB l = true → i < j → l[i]? = some a → l[j]? = some b → a < b
  | [], i, j, a, b, _, _, h1, _ => by simp at h1
  | [x], i, j, a, b, _, hij, h1, h2 => by
    have : j < 1 := by
      have := (List.getElem?_eq_some_iff.mp h2).1
      simpa using this
    omega
  | x :: y :: r, i, j, a, b, h, hij, h1, h2 => by
    unfold incB at h
    rw [Bool.and_eq_true, decide_eq_true_eq] at h
    cases j with
    | zero => omega
    | succ j =>
      have h2 : (y :: r)[j]? = some b := by simpa using h2
      cases i with
      | succ i => exact incB_lt (i := i) (j := j) h.2 (Nat.lt_of_succ_lt_succ hij) (by simpa using h1) h2
      | zero =>
        have h1 : x = a := by simpa using h1
        subst h1
        cases j with
        | zero =>
          have h2 : y = b := by simpa using h2
          subst h2
          exact h.1
        | succ j => exact Nat.lt_trans h.1 (incB_lt (i := 0) h.2 (Nat.succ_pos _) rfl h2)
theorem inc_inj {gs : List Str} {K : PySem.W.Frag} (h : incB (gs.map (ga K)) = true) {i j : Nat} (hi : i < gs.length) (hj : j < gs.length) (e : ga K (gs.getD i Str.empty) = ga K (gs.getD j Str.empty)) : i = j := by
  have g : ∀ {k}, k < gs.length → (gs.map (ga K))[k]? = some (ga K (gs.getD k Str.empty)) := fun {k} hk => by
    rw [List.getElem?_map, List.getD_eq_getElem?_getD, List.getElem?_eq_getElem hk]
    rfl
  rcases Nat.lt_trichotomy i j with z | z | z
  · have z := incB_lt h z (g hi) (g hj)
    rw [e] at z
    exact absurd z (Nat.lt_irrefl _)
  · exact z
  · have z := incB_lt h z (g hj) (g hi)
    rw [e] at z
    exact absurd z (Nat.lt_irrefl _)
theorem sub_of {gs : List Str} {anc : Nat → List Nat} {K : PySem.W.Frag} {i j : Nat} (hinc : incB (gs.map (ga K)) = true) (hi : i < gs.length) (hj : j < gs.length) (hm : mrB gs anc K i (ga K (gs.getD i Str.empty)) = true) (hc : clB K (ga K (gs.getD j Str.empty)) = true) :
    PySem.W.kitCls K (.ref (ga K (gs.getD i Str.empty))) (.ref (ga K (gs.getD j Str.empty))) = some (subA anc i j) ∧ PySem.W.kitOne K (.ref (ga K (gs.getD i Str.empty))) (.ref (ga K (gs.getD j Str.empty))) = some (subA anc i j) := by
  unfold mrB at hm
  rw [Bool.and_eq_true, Bool.and_eq_true] at hm
  obtain ⟨h1, h2, h3⟩ := hm
  unfold clB at hc
  cases e : PySem.W.clsIn K (ga K (gs.getD i Str.empty)) with
  | none => rw [e] at h3; cases h3
  | some cd =>
    rw [e] at h3
    have h3 : cd.mro = _ := beq_iff_eq.mp h3
    have hcont : cd.mro.contains (.ref (ga K (gs.getD j Str.empty))) = subA anc i j := by
      rw [h3]
      unfold subA
      apply Bool.eq_iff_iff.mpr
      rw [List.contains_iff_mem, List.mem_append, List.mem_map, List.contains_iff_mem]
      constructor
      · rintro (⟨k, hk, ek⟩ | z)
        · have hk2 := of_decide_eq_true (List.all_eq_true.mp h2 k hk)
          have := inc_inj hinc hk2 hj (Value.ref.inj ek)
          rw [← this]; exact hk
        · simp [veB] at z
      · exact fun z => .inl ⟨j, z, rfl⟩
    have hmro : PySem.W.subIn K (.ref (ga K (gs.getD i Str.empty))) (.ref (ga K (gs.getD j Str.empty))) = some (subA anc i j) := by
      show PySem.W.mroIn K _ _ = _
      unfold PySem.W.mroIn
      rw [e, Option.bind_some, hcont]
      have hne : cd.mro.isEmpty = false := by
        rw [h3]
        cases (anc i).map (fun k => Value.ref (ga K (gs.getD k Str.empty))) <;> rfl
      rw [hne]
      rfl
    have hcls : PySem.W.kitCls K (.ref (ga K (gs.getD i Str.empty))) (.ref (ga K (gs.getD j Str.empty))) = some (subA anc i j) := by
      show (if _ = true then _ else _) = _
      rw [if_pos hc, hmro]
    refine ⟨hcls, ?_⟩
    unfold PySem.W.kitOne
    by_cases q : (Value.ref (ga K (gs.getD i Str.empty)) == Value.ref (ga K (gs.getD j Str.empty))) = true
    · rw [if_pos q]
      have := inc_inj hinc hi hj (Value.ref.inj (beq_iff_eq.mp q))
      subst this
      unfold subA
      rw [h1]
    · rw [if_neg q]; exact hcls
section
variable {Γ : Env} {B : Tb} {anc : Nat → List Nat} {xi : Nat → Option String} {h : Heap}
structure FactsB (Γ : Env) (B : Tb) (anc : Nat → List Nat) (xi : Nat → Option String) : Prop where
  gs : Γ.gs = B.gs
  ft : Γ.ft = B.ft
  ks : Γ.ks = B.ks
  pl : Γ.pl = B.pl
  xe : Γ.xi = B.xi
  ct : Γ.ct = B.ct
  kw : Γ.kw = B.kw
  all : factsB Γ.P B anc xi Γ.K = true
theorem FactsB.glo (F : FactsB Γ B anc xi) (X : Γ.K.In h) (G : h.Ns mainGlobals Γ.mg) {j : Nat} {x : Str} (e : B.gs[j]? = some x) : Γ.mg x = some (.ref (ga Γ.K x)) := by
  have a := F.all
  unfold factsB at a
  rw [Bool.and_eq_true, Bool.and_eq_true] at a
  exact He.glo_ok X G (List.all_eq_true.mp a.1.1 x (List.mem_of_getElem? e))
theorem FactsB.fun_ (F : FactsB Γ B anc xi) (X : Γ.K.In h) (G : h.Ns mainGlobals Γ.mg) {p : Str × Nat} (e : p ∈ B.ft) : Γ.mg p.1 = some (.ref (ga Γ.K p.1)) := by
  have a := F.all
  unfold factsB at a
  rw [Bool.and_eq_true, Bool.and_eq_true] at a
  exact He.glo_ok X G (List.all_eq_true.mp a.1.2 p e)
theorem FactsB.blt (F : FactsB Γ B anc xi) (X : Γ.K.In h) (G : h.Ns mainGlobals Γ.mg) : ∀ x ∈ bltL, Γ.mg x = none := fun x hx => by
  have a := F.all
  unfold factsB at a
  rw [Bool.and_eq_true, Bool.and_eq_true _ (_ && _)] at a
  exact He.free_ok X G (List.all_eq_true.mp a.2.1 x hx)
theorem FactsB.cat_ (F : FactsB Γ B anc xi) (X : Γ.K.In h) (G : h.Ns mainGlobals Γ.mg) {p : Str × Nat} (e : p ∈ B.ct) : Γ.mg p.1 = some (.ref (ga Γ.K p.1)) := by
  have a := F.all
  unfold factsB at a
  simp only [Bool.and_eq_true] at a
  obtain ⟨a1, a2, a3, a4, a5, a6, a7, a8, a9, a10, a12, a11⟩ := a
  exact He.glo_ok X G (List.all_eq_true.mp a12 p e)
theorem isX_all (F : FactsB Γ B anc xi) {i : Nat} (h : isX Γ i) : i ∈ allX B := by
  unfold allX
  rcases h with h | ⟨f, h⟩
  · rw [F.pl] at h
    exact List.mem_append_left _ h
  · rw [F.xe] at h
    exact List.mem_append_right _ (List.mem_map.mpr ⟨_, h, rfl⟩)
theorem FactsB.facts (F : FactsB Γ B anc xi) (X : Γ.K.In h) (G : h.Ns mainGlobals Γ.mg)
    (hcat : ∀ (x : Str) (q : Nat), (x, q) ∈ Γ.ct → isX Γ q ∧ ∃ (g : Addr) (fd : FuncData) (st : Stmt) (wn cn : Str), Γ.mg x = some (.ref g) ∧ FunD Γ.K x x (defArgs st) (defBody st) (defScope st) [] [] g fd ∧ Binds Γ.K fd [wn] [] ∧ catB Γ.gs q wn cn st = true) : Facts Γ (subA anc) xi := by
  have a := F.all
  unfold factsB at a
  simp only [Bool.and_eq_true] at a
  obtain ⟨a1, a2, a3, a4, a5, a6, a7, a8, a9, a10, a12, a11⟩ := a
  obtain ⟨a5, a5c, a5i⟩ := a5
  have gD : ∀ {k : Nat} {x : Str}, B.gs[k]? = some x → k < B.gs.length ∧ B.gs.getD k Str.empty = x := fun {k x} e => ⟨(List.getElem?_eq_some_iff.mp e).1, by rw [List.getD_eq_getElem?_getD, e]; rfl⟩
  have xr : ∀ (i : Nat) (x : Str), isX Γ i → Γ.gs[i]? = some x → mrB B.gs anc Γ.K i (ga Γ.K x) = true ∧ PySem.W.subIn Γ.K (.ref (ga Γ.K x)) (.type "BaseException") = some true := fun i x hi hx => by
    rw [F.gs] at hx
    have k := List.all_eq_true.mp a5 _ (isX_all F hi)
    rw [hx] at k
    simp only [Bool.and_eq_true, decide_eq_true_eq] at k
    exact k
  have pair : ∀ (i j : Nat) (x y : Str), isX Γ i → Γ.gs[i]? = some x → Γ.gs[j]? = some y → PySem.W.kitCls Γ.K (.ref (ga Γ.K x)) (.ref (ga Γ.K y)) = some (subA anc i j) ∧ PySem.W.kitOne Γ.K (.ref (ga Γ.K x)) (.ref (ga Γ.K y)) = some (subA anc i j) := fun i j x y hi hx hy => by
    have k := (xr i x hi hx).1
    rw [F.gs] at hx hy
    obtain ⟨l1, e1⟩ := gD hx
    obtain ⟨l2, e2⟩ := gD hy
    have c2 := List.all_eq_true.mp a5c y (List.mem_of_getElem? hy)
    rw [← e1] at k ⊢
    rw [← e2] at c2 ⊢
    exact sub_of a5i l1 l2 k c2
  refine ⟨fun x d hx => ?_, fun j x hj hx => ?_, fun i j x y C D hi hj hx hy mx my => ?_, fun i j x y C D hi hx hy mx my => ?_, fun i x C hi hx mx => ?_, fun j f x hj hx => ?_, fun j hj => ?_, fun j f hj => ?_, sysB_ok a10, fun hne => ?_, hcat⟩
  · rw [F.ks] at hx
    have k := List.all_eq_true.mp a3 _ hx
    cases d <;> first | (cases k; done) | skip
    · obtain ⟨t, q⟩ := He.int_ok X G k
      exact ⟨.int _, _, q, ⟨t, rfl⟩, fun _ => .int _⟩
    · obtain ⟨t, q⟩ := He.str_ok X G k
      exact ⟨.str _, _, q, ⟨t, rfl⟩, fun _ => .str _⟩
  · rw [F.pl] at hj
    rw [F.gs] at hx
    have k := List.all_eq_true.mp a4 _ hj
    rw [hx] at k
    simp only [Bool.and_eq_true] at k
    obtain ⟨k1, k2, k3, k4⟩ := He.exc_ok k.1
    exact ⟨_, _, _, _, _, F.glo X G hx, PySem.F.excBase_ValueError, k1, k2, k3, k4, excB_ok k.2⟩
  · have k := (pair i j x y hi hx hy).1
    have kb := (xr j y hj hy).2
    rw [F.gs] at hx hy
    rw [F.glo X G hx] at mx
    rw [F.glo X G hy] at my
    cases mx; cases my
    unfold PySem.W.exmOne
    rw [kb]
    exact k
  · have k := (pair i j x y hi hx hy).2
    rw [F.gs] at hx hy
    rw [F.glo X G hx] at mx
    rw [F.glo X G hy] at my
    cases mx; cases my
    exact k
  · rw [F.gs] at hx
    rw [F.glo X G hx] at mx
    cases mx
    have k := List.all_eq_true.mp a6 _ (isX_all F hi)
    rw [hx] at k
    exact of_decide_eq_true k
  · rw [F.xe] at hj
    rw [F.gs] at hx
    have k := List.all_eq_true.mp a7 _ hj
    simp only [hx, Bool.and_eq_true, decide_eq_true_eq] at k
    obtain ⟨k1, k2, k3, k4, k5, k6⟩ := k
    obtain ⟨fd, k1⟩ := xifB_ok k1
    exact ⟨_, _, fd, F.glo X G hx, k1, xicB_ok k2, k3, k4, xfB_ok k5, excB_ok k6⟩
  · rw [F.pl] at hj
    have k := List.all_eq_true.mp a8 _ hj
    exact Option.isNone_iff_eq_none.mp k
  · rw [F.xe] at hj
    exact of_decide_eq_true (List.all_eq_true.mp a9 _ hj)
  · rw [Bool.or_eq_true] at a11
    rcases a11 with z | z
    · rw [F.xe] at hne
      exact absurd (List.isEmpty_iff.mp z) hne
    · simpa using z
end
end Ip

set_option Elab.async false
set_option linter.all false
set_option maxRecDepth 100000
set_option maxHeartbeats 400000
/-! IpHk: the look at the heap behind the top: no lists, no code tables in the kept part. -/
namespace Ip
open PySem PySem.Spec PyProof.Rows L2
open He (DefD SaysD obsD valD frG AlD emptyTab lookup_mem frG_mem tabsB cT emptyTab_eq)

/-- a list is not of the kept part -/
theorem sq_own {K : PySem.W.Frag} (nol : ∀ a o, K.lookup a = some o → isLs o = false) {H : Hp} {a : Addr} {xs : List V} (h : SqL K H a xs) : Rd H a (.lst xs) := by
  rcases h with h | ⟨o, its, n, h1, h2, _⟩
  · exact h
  · have q := nol a o h1
    unfold isLs at q
    rw [h2] at q
    simp at q
end Ip

set_option Elab.async false
set_option linter.all false
set_option maxRecDepth 100000
set_option maxHeartbeats 400000
/-! IpEnd: from the look at the heap to all defs' promises, and the law's own. -/
namespace Ip
open PySem PySem.Spec PyProof.Rows L2

/-- the defs that make lambdas, and their names -/
def lms (ds : List FDef) : List (Str × Str) := ds.filterMap fun d => d.lm.map fun q => (d.x, q)
def tfOf (ds : List FDef) : List He.Defn := (lms ds).map fun p => (p.1, none)
/-- a def's small form fits its statement -/
def chkD (B : Tb) (d : FDef) (st : Stmt) : Bool := okScope d.N d.ps (defScope st) && okB B d.sm ⟨d.N, defScope st, none, d.lm⟩ (defBody st) && decide (nmD st = d.x) && (match d.lm with
  | some q => decide (d.x ++ ".<locals>." ++ "<lambda>" = q)
  | none => true)
/-- how its arguments are bound -/
def BindD (B : Tb) (i : Nat) (d : FDef) (K : PySem.W.Frag) (fd : FuncData) : Prop := Binds K fd d.ps [] ∧ ∀ (ks : List Str) (pm : List Nat), (i, ks, pm) ∈ B.kw → ∀ (s : Shared) (us ws : List Value), K.In s.heap → us.length = d.ps.length → permL pm us = some ws → BindsTo s fd ⟨[], ks.zip us⟩ (d.ps.zip ws)
/-- all defs fit -/
structure Chk (B : Tb) (ds : List FDef) (sts : List Stmt) (K : PySem.W.Frag) : Prop where
  dt : B.ft = ds.map fun d => (d.x, d.ps.length)
  hc : ∀ (i : Nat) (d : FDef), ds[i]? = some d → ∃ st ∈ sts, chkD B d st = true ∧ ∀ (f : Addr) (fd : FuncData), FunD K d.x d.x (defArgs st) (defBody st) (defScope st) [] [] f fd → BindD B i d K fd
  ct : ∀ (x : Str) (q : Nat), (x, q) ∈ B.ct → (q ∈ B.pl ∨ ∃ f, (q, f) ∈ B.xi) ∧ ∃ st ∈ sts, ∃ wn cn, nmD st = x ∧ catB B.gs q wn cn st = true ∧ ∀ (f : Addr) (fd : FuncData), FunD K x x (defArgs st) (defBody st) (defScope st) [] [] f fd → Binds K fd [wn] []
section
variable {Γ : Env} {B : Tb} {anc : Nat → List Nat} {xi : Nat → Option String} {h : Heap} {ds : List FDef} {sts : List Stmt}
theorem fun_st (c : He.SaysD [] (sts.map ddOf) Γ.K) {st : Stmt} (hs : st ∈ sts) {x : Str} (hx : nmD st = x) : ∃ fd, FunD Γ.K x x (defArgs st) (defBody st) (defScope st) [] [] (He.ga Γ.K x) fd := by
  obtain ⟨i, e⟩ := List.getElem?_of_mem hs
  obtain ⟨fd, FD⟩ := c.def_ i (d := ddOf st) (by rw [List.getElem?_map, e]; rfl)
  refine ⟨fd, ?_⟩
  rw [← hx]
  exact FD
theorem defs_of (F : FactsB Γ B anc xi) (X : Γ.K.In h) (G : h.Ns mainGlobals Γ.mg) (c : He.SaysD [] (sts.map ddOf) Γ.K) (C : Chk B ds sts Γ.K) (hu : tabUL (lms ds) Γ.K = true) (hT : Γ.T = (lms ds).map fun p => (tbl Γ.K p, p.2))
    (hTB : ∀ p ∈ tfOf ds, LamX.TabB Γ.base Γ.mg (He.cT Γ.K p).1 (He.cT Γ.K p).2) : Defs Γ B ds (subA anc) xi := by
  refine ⟨F.gs, F.ft, F.ks, F.pl, F.xe, F.kw, F.facts X G fun x q hx => ?_, C.dt, F.blt X G, fun j x hx => ?_, fun i d hd => ?_⟩
  · rw [F.ct] at hx
    obtain ⟨k1, st, k2, wn, cn, k3, k4, k5⟩ := C.ct x q hx
    obtain ⟨fd, FD⟩ := fun_st c k2 k3
    refine ⟨?_, _, fd, st, wn, cn, F.cat_ (p := (x, q)) X G hx, FD, k5 _ _ FD, by rw [F.gs]; exact k4⟩
    unfold isX
    rw [F.pl, F.xe]
    exact k1
  · rw [F.gs] at hx
    exact ⟨_, F.glo X G hx⟩
  · obtain ⟨st, e1, e2, e3⟩ := C.hc i d hd
    unfold chkD at e2
    simp only [Bool.and_eq_true, decide_eq_true_eq] at e2
    obtain ⟨⟨⟨k1, k2⟩, k3⟩, k4⟩ := e2
    obtain ⟨fd, FD⟩ := fun_st c e1 k3
    have hm : Γ.mg d.x = some (.ref (He.ga Γ.K d.x)) := F.fun_ (p := (d.x, d.ps.length)) X G (by rw [C.dt]; exact List.mem_map.mpr ⟨d, List.mem_of_getElem? hd, rfl⟩)
    obtain ⟨b1, b2⟩ := e3 _ _ FD
    refine ⟨_, fd, st, hm, FD, b1, k1, k2, fun ks pm hk => b2 ks pm (by rw [← F.kw]; exact hk), fun q hq => ?_⟩
    rw [hq] at k4
    have hmem : (d.x, q) ∈ lms ds := List.mem_filterMap.mpr ⟨d, List.mem_of_getElem? hd, by rw [hq]; rfl⟩
    obtain ⟨oc, od, dV, kV, doc, pm, an, cdv, ct, osl, rfl, lk, hcd, _, _⟩ := FD.ex
    obtain ⟨ca, rfl⟩ := He.codeIn_ref hcd
    have ec : He.codeOf Γ.K (d.x, none) = ca := He.codeOf_eq (p := (d.x, none)) lk rfl
    have e1 : (He.cT Γ.K (d.x, none)).1 = ca := ec
    refine ⟨ca, tbl Γ.K (d.x, q), rfl, ?_, of_decide_eq_true k4, ?_, fun p hp he => ?_⟩
    · have := hTB (d.x, none) (List.mem_map.mpr ⟨_, hmem, rfl⟩)
      rw [e1] at this
      exact this
    · rw [hT]
      exact List.mem_map.mpr ⟨_, hmem, rfl⟩
    · rw [hT] at hp
      obtain ⟨p0, hp0, rfl⟩ := List.mem_map.mp hp
      exact of_decide_eq_true (List.all_eq_true.mp (List.all_eq_true.mp hu p0 hp0) _ hmem) he
/-- the script, as it stands at the law's entry -/
theorem rep_ints {G : Hp} : ∀ (ns : List Int), RepL Γ G (ns.map D.int) (ns.map V.int)
  | [] => .nil
  | n :: ns => .cons (.int n) (rep_ints ns)
def noT (H : Hp) : Hp := fun b => match H b with
  | some (.tbl _) => none
  | o => o
theorem noT_same {H : Hp} : Same (noT H) H := fun b o e => by
  unfold noT at e
  split at e
  · cases e
  · exact e
theorem noT_no {H : Hp} {a : Addr} {ps : Array Value} : noT H a ≠ some (.tbl ps) := fun e => by
  unfold noT at e
  split at e
  · cases e
  · rename_i h
    exact h ps e
theorem noT_rd {H : Hp} {a : Addr} {xs : List V} (h : Rd H a (.lst xs)) : Rd (noT H) a (.lst xs) := by
  unfold Rd at h ⊢
  have : ∀ o : HO, (∀ ps, o ≠ .tbl ps) → H a = some o → noT H a = some o := fun o ho e => by
    unfold noT
    rw [e]
    split
    · rename_i ps e2
      cases e2
      exact absurd rfl (ho ps)
    · rfl
  rcases h with h | ⟨o, h⟩
  · exact .inl (this _ (fun _ z => by cases z) h)
  · exact .inr ⟨o, this _ (fun _ z => by cases z) h⟩
/-- the law's promise -/
theorem sp_law {c : Cfg} {d : FDef} {H : Hp} {a : Addr} {ns : List Int} (hTb : ∀ p ∈ Γ.T, H p.1 = some (.tbl #[])) (hS : Rd H a (.lst (ns.map V.int)))
    (hr : ∃ η', runF c d [.d (.lst (ns.map D.int))] [] = .ok (.d (.bl true)) η') : spF Γ 1 (runF c d) [.ref a] H (fun v _ => v = .bl true) (fun _ _ _ => False) := by
  obtain ⟨η', hr⟩ := hr
  refine ⟨rfl, [.d (.lst (ns.map D.int))], [], fun _ => none, noT H, ⟨noT_same, fun n o e => by simp at e, fun n m b h1 => by obtain ⟨o, e, _⟩ := h1; simp at e, fun _ _ => rfl, ?_, ?_⟩, .cons (show Rep Γ (noT H) _ _ from .lst (noT_rd hS) (rep_ints ns)) .nil, ?_⟩
  · intro p hp
    exact ⟨#[], hTb p hp, True.intro, fun pos cv e => by cases e⟩
  · exact fun a ps => noT_no
  · rw [hr]
    intro ρ' G' H' S' E' v rv
    cases rv
    rfl
end
end Ip

set_option Elab.async false
set_option linter.all false
set_option maxRecDepth 100000
set_option maxHeartbeats 2000000
/-! IpEnd2: the end of a law by such promises. -/
namespace Ip
open PySem PySem.Spec PyProof.Rows L2 LamX
/-- HandS.EndTab's end, where no object's repr is under way -/
theorem law_callG {P : Program} {w : World} {K : PySem.W.Frag} {mg mb : Str → Option Value} {CX : CXT} {k : Nat} {fa a : Addr} {cs : List (Addr × Addr)} {fd : FuncData} {x : Str} {sp : Sp} {s₁ : Shared} {vs : List Value} {ns : List Int}
    (KX : K.In s₁.heap) (hns : s₁.heap.Ns mainGlobals mg) (hb : s₁.heap.Ns builtinsNs mb) (hbb : ∀ x : Str, x ≠ "__name__" → mb x = bootBuiltins x) (hlim : s₁.heap.NoLimit) (hg : s₁.gens = #[])
    (hT : ∀ p ∈ cs, s₁.heap.get? p.2 = some { cls := .none, data := .fields #[] }) (nT : ∀ p ∈ cs, K.lookup p.2 = none) (C : ∀ p ∈ cs, PySem.W.CodeHd s₁.heap p.1 p.2)
    (hbm : ∃ (bm : Addr) (ob : Obj), mg "__builtins__" = some (.ref bm) ∧ bm ≠ builtinsNs ∧ s₁.heap.get? bm = some ob ∧ ob.cls = .type "module" ∧ ob.dict = some builtinsNs ∧ ob.data = .plain)
    (ha : s₁.heap.get? a = some { cls := .type "list", data := .seq vs.toArray }) (hi : IntsAre vs ns) (hl : ns.length ≤ sizeLine) (hr : Room k callerA)
    (F : ∀ base : Heap, K.In base → base.Ns mainGlobals mg → (∀ p ∈ cs, TabB base mg p.1 p.2) → FnG P w K mg base CX k fa fd [x] sp) (hbind : ∀ (s : Shared) (u : Value), K.In s.heap → BindsTo s fd ⟨[u], []⟩ [(x, u)])
    (hsp : ∀ H : Hp, (∀ p ∈ cs, H p.2 = some (.tbl #[])) → SqL K H a (ns.map V.int) → sp [.ref a] H (fun v _ => v = .bl true) fun _ _ _ => False)
    (hCX : ∀ H e s', CX [] H s₁ (fun _ _ _ => False) e s' → False) :
    codeAny (model P w) callerA (.call (.ref fa) ⟨[.ref a], []⟩) (fun r s' => r = .ok (.ret (.bool true)) ∧ OldK s₁.heap s'.heap ∧ s'.os = s₁.os ∧ AllBare s'.gens) s₁ := by
  have rv := vals_ints hi
  have lenV := hi.length
  have isT : ∀ b : Addr, b ∈ cs.map (·.2) → s₁.heap.get? b = some { cls := .none, data := .fields #[] } := fun b hb => by
    obtain ⟨p, hp, e⟩ := List.mem_map.mp hb
    rw [← e]
    exact hT p hp
  have aT : a ∉ cs.map (·.2) := fun z => by
    have q := isT a z
    rw [ha] at q
    have z' : Data.seq vs.toArray _ = Data.fields #[] := congrArg Obj.data (Option.some.inj q)
    cases z'
  have memT : ∀ p ∈ cs, p.2 ∈ cs.map (·.2) := fun p hp => List.mem_map.mpr ⟨p, hp, rfl⟩
  -- from an abstract heap in which nothing but the script and the tables may be tracked
  have core : ∀ H : Hp, (∀ p ∈ cs, H p.2 = some (.tbl #[])) → (∀ b, H b = none ∨ b ∈ cs.map (·.2) ∨ ∃ o xs, H b = some (.frz o (.lst xs))) → SqL K H a (ns.map V.int) → HOk P w H s₁.heap → (∀ b, H b ≠ none → b = a ∨ b ∈ cs.map (·.2)) → (H a ≠ none → K.lookup a = none) →
      codeAny (model P w) callerA (.call (.ref fa) ⟨[.ref a], []⟩) (fun r s' => r = .ok (.ret (.bool true)) ∧ OldK s₁.heap s'.heap ∧ s'.os = s₁.os ∧ AllBare s'.gens) s₁ := by
    intro H hH hO hS hok hA hK
    have base_of : ∀ {b : Addr} {o : Obj}, s₁.heap.get? b = some o → H b = none → (hidT s₁.heap H).get? b = some o := fun e n => hidT_get e n
    have noD : ∀ {b : Addr} {o : Obj}, s₁.heap.get? b = some o → (∀ vs n, o.data ≠ .seq vs n) → o.data ≠ .fields #[] → H b = none := fun {b o} e h1 h2 => by
      cases q : H b with
      | none => rfl
      | some u =>
        rcases hA b (by rw [q]; simp) with e' | e'
        · rw [e', ha] at e
          cases e
          exact (h1 _ _ rfl).elim
        · rw [isT b e'] at e
          cases e
          exact (h2 rfl).elim
    have noA : ∀ {b : Addr} {o : Obj} {es : Array DictEntry} {ep : Nat}, s₁.heap.get? b = some o → o.data = .dict es ep → H b = none := fun {b o es ep} e d => by
      refine noD e (fun vs n z => ?_) fun z => ?_
      · rw [d] at z
        cases z
      · rw [d] at z
        cases z
    have nsK : ∀ {b : Addr} {m : Str → Option Value}, s₁.heap.Ns b m → (hidT s₁.heap H).Ns b m := fun {b m} ⟨o, es, ep, e, d, r⟩ => ⟨o, es, ep, base_of e (noA e d), d, r⟩
    have hKb : K.In (hidT s₁.heap H) := fun b o e => base_of (KX b o e) (by
      cases q : H b with
      | none => rfl
      | some u =>
        rcases hA b (by rw [q]; simp) with e' | e'
        · rw [e'] at e q
          rw [hK (by rw [q]; simp)] at e
          cases e
        · obtain ⟨p, hp, ep⟩ := List.mem_map.mp e'
          rw [← ep, nT p hp] at e
          cases e)
    have hM : L2.Mod K mg (hidT s₁.heap H) := ⟨hKb, nsK hns, ⟨mb, nsK hb, hbb⟩, let ⟨mc, h1, h2⟩ := hlim; ⟨mc, nsK h1, h2⟩⟩
    have TB : ∀ p ∈ cs, TabB (hidT s₁.heap H) mg p.1 p.2 := fun p hp => by
      have hTp := hT p hp
      refine ⟨?_, ?_, fun z => ?_⟩
      · obtain ⟨o, us, file, tf, flags, tg, inF, text, tt, e1, r1, r2, r3, r4, r5, r6, r7, r8, hne⟩ := C p hp
        refine ⟨o, us, file, tf, flags, tg, inF, text, tt, base_of e1 (noD e1 (fun vs n z => ?_) fun z => ?_), r1, r2, r3, r4, r5, r6, r7, r8, hne⟩
        · rw [r2] at z
          cases z
        · rw [r2] at z
          cases z
          simp at r3
      · obtain ⟨bm, ob, b1, b2, b3, b4, b5, b6⟩ := hbm
        have nG : bm ≠ mainGlobals := fun q => by
          obtain ⟨o, es, ep, e, hd, _⟩ := hns
          rw [q, e] at b3
          cases b3
          rw [hd] at b6
          cases b6
        have nP : bm ≠ p.2 := fun q => by
          rw [q, hTp] at b3
          cases b3
          cases b6
        refine ⟨bm, ob, b1, b2, nG, nP, base_of b3 (noD b3 (fun vs n z => ?_) fun z => ?_), b4, b5, b6⟩
        · rw [b6] at z
          cases z
        · rw [b6] at z
          cases z
      · obtain ⟨o, es, ep, e, hd, _⟩ := hns
        rw [z, hTp] at e
        cases e
        cases hd
    have e0 : Env0 P w K mg (hidT s₁.heap H) callerA [] s₁ H := ⟨rfl, hM, fun b o e => of_hidT e, Nat.le_of_eq (hidT_size _ _), trivial, fun b hb => absurd (show b ∈ ([] : List Addr) from hb) (by simp), hok, .of_eq hg⟩
    refine codeAny_mono ((F _ hKb (nsK hns) TB).go callerA [] s₁ H ⟨[.ref a], []⟩ [.ref a] [.ref a] _ _ hr rfl e0 (hbind s₁ (.ref a) KX) (.cons rfl .nil) (hsp H hH hS)) fun r s' h => ?_
    cases r with
    | error e => exact (hCX H e s' h).elim
    | ok fl =>
      cases fl with
      | next => exact False.elim h
      | brk => exact False.elim h
      | cont => exact False.elim h
      | ret u =>
        obtain ⟨v, H', os, bare, un, hok', r', q⟩ := h
        have q' : v = .bl true := q
        subst q'
        obtain rfl : u = Value.bool true := r'
        have key : ∀ b o, b ∉ cs.map (·.2) → s₁.heap.get? b = some o → s'.heap.get? b = some o := fun b o nb e => by
          cases q : H b with
          | none => exact un.keep b o e q (by intro z; exact absurd (show b ∈ ([] : List Addr) from z) (by simp)) (by simp)
          | some u =>
            rcases hO b with z | z | ⟨ob, xs, z⟩
            · rw [q] at z; cases z
            · exact absurd z nb
            · have z2 := un.frzs b ob _ z
              obtain ⟨e1, _⟩ := hok b _ z
              obtain ⟨e2, _⟩ := hok' b _ z2
              rw [e] at e1; cases e1
              exact e2
        have grown : ∀ p ∈ cs, ∃ more : Array Value, s'.heap.get? p.2 = some { cls := .none, data := .fields more } := fun p hp => by
          obtain ⟨more, z⟩ := un.tbls p.2 #[] (hH p hp)
          exact ⟨_, hok' p.2 _ z⟩
        refine ⟨rfl, ⟨fun b o e => ?_, fun b o e => ?_⟩, os, bare⟩
        · by_cases hb : b ∈ cs.map (·.2)
          · obtain ⟨p, hp, ep⟩ := List.mem_map.mp hb
            obtain ⟨more, hm⟩ := grown p hp
            rw [← ep] at e ⊢
            rw [hT p hp] at e
            cases e
            exact .inr (.inl ⟨((C p hp).tab (hT p hp)).isCodeTable, rfl, #[], more, rfl, by rw [Array.empty_append]; exact hm⟩)
          · exact .inl (key b o hb e)
        · by_cases hb : b ∈ cs.map (·.2)
          · obtain ⟨p, hp, ep⟩ := List.mem_map.mp hb
            obtain ⟨more, hm⟩ := grown p hp
            rw [← ep]
            exact ⟨_, hm⟩
          · exact ⟨o, key b o hb e⟩
  cases hk : K.lookup a with
  | some o =>
    have e := KX a o hk
    rw [ha] at e
    cases e
    refine core (fun b => if b ∈ cs.map (·.2) then some (.tbl #[]) else none) (fun p hp => if_pos (memT p hp)) (fun b => ?_) (.inr ⟨_, vs.toArray, _, hk, rfl, rfl, rfl, by rw [List.size_toArray, lenV]; exact hl, by simpa using rv⟩) (fun b u z => ?_) (fun b z => ?_) fun z => absurd (show (if a ∈ cs.map (·.2) then some (HO.tbl #[]) else none) = none from if_neg aT) z
    · by_cases hb : b ∈ cs.map (·.2)
      · exact .inr (.inl hb)
      · exact .inl (if_neg hb)
    · by_cases hb : b ∈ cs.map (·.2)
      · have z' := (if_pos hb).symm.trans z
        cases z'
        exact isT b hb
      · have z' := (if_neg hb).symm.trans z
        cases z'
    · by_cases hb : b ∈ cs.map (·.2)
      · exact .inr hb
      · exact absurd (if_neg hb) z
  | none =>
    refine core (fun b => if b = a then some (.frz { cls := .type "list", data := .seq vs.toArray } (.lst (ns.map V.int))) else if b ∈ cs.map (·.2) then some (.tbl #[]) else none) (fun p hp => (if_neg (show ¬ p.2 = a from fun z => aT (by rw [← z]; exact memT p hp))).trans (if_pos (memT p hp))) (fun b => ?_)
      (.inl (.inr ⟨{ cls := .type "list", data := .seq vs.toArray }, if_pos rfl⟩)) (fun b u z => ?_) (fun b z => ?_) fun _ => hk
    · by_cases hb : b = a
      · exact .inr (.inr ⟨_, _, if_pos hb⟩)
      · by_cases hb2 : b ∈ cs.map (·.2)
        · exact .inr (.inl hb2)
        · exact .inl ((if_neg hb).trans (if_neg hb2))
    · by_cases hb : b = a
      · have z' := (if_pos hb).symm.trans z
        cases z'
        rw [hb]
        exact ⟨ha, by rw [List.length_map]; exact hl, vs, _, rv, ha⟩
      · have z1 := (if_neg hb).symm.trans z
        by_cases hb2 : b ∈ cs.map (·.2)
        · have z' := (if_pos hb2).symm.trans z1
          cases z'
          exact isT b hb2
        · have z' := (if_neg hb2).symm.trans z1
          cases z'
    · by_cases hb : b = a
      · exact .inl hb
      · by_cases hb2 : b ∈ cs.map (·.2)
        · exact .inr hb2
        · exact absurd ((if_neg hb).trans (if_neg hb2)) z
def LawAtG (l : PySem.W.OpenLaw) (w : World) (K : PySem.W.Frag) (CX : CXT) (k n : Nat) (x : Str) (mg : Str → Option Value) (fa : Addr) (h : Heap) : Prop :=
  ∃ (fd : FuncData) (cs : List (Addr × Addr)) (sp : Sp), (∀ p ∈ cs, h.get? p.2 = some { cls := .none, data := .fields #[] }) ∧ (∀ p ∈ cs, K.lookup p.2 = none) ∧ (∀ p ∈ cs, PySem.W.CodeHd h p.1 p.2) ∧ (∀ (s : Shared) (u : Value), K.In s.heap → BindsTo s fd ⟨[u], []⟩ [(x, u)]) ∧
    (∀ (H : Hp) (a : Addr) (ns : List Int), ns.length ≤ n → (∀ z ∈ ns, Builtin.Int.intBits z ≤ 1048576) → (∀ p ∈ cs, H p.2 = some (.tbl #[])) → SqL K H a (ns.map V.int) → sp [.ref a] H (fun v _ => v = .bl true) fun _ _ _ => False) ∧
    ∀ base : Heap, K.In base → base.Ns mainGlobals mg → (∀ p ∈ cs, TabB base mg p.1 p.2) → FnG l.prog w K mg base CX k fa fd [x] sp
theorem walk_G {l : PySem.W.OpenLaw} {n k : Nat} {q : Program} {loose : List Str} {XP : (Str → Option Value) → Heap → Prop} {YP : World → Heap → Prop} {d : DefRec} {CX : World → CXT} {x : Str}
    (hn : l.most = some n) (hn2 : n ≤ sizeLine) (hdf : d.params.defaults = []) (hr : Room k callerA)
    (F : ∀ (w : World) (mg : Str → Option Value) (fa : Addr) (h : Heap), YP w h → h.Ns mainGlobals mg → mg d.name = some (.ref fa) → ∃ K : PySem.W.Frag, K.In h ∧ LawAtG l w K (CX w) k n x mg fa h)
    (hCX : ∀ (w : World) (H : Hp) (s : Shared) (e : Value) (s' : Shared), CX w [] H s (fun _ _ _ => False) e s' → False) :
    PySem.W.WalkO q loose XP YP l.row.toRowW d [] (fun f vs => PySem.call f vs) := by
  refine Att.attach_callB hn hdf fun w s₀ s₁ mg mb fa o pm cd doc a vs ns G Y ho hd hcd hmg hobj hints hlen hbits hg => ?_
  obtain ⟨K, KX, fd, cs, sp, hT, nT, C, hb, hsp, hF⟩ := F w mg fa _ Y G.T.g hmg
  exact law_callG KX G.T.g G.T.b G.T.builtins G.T.nolimit hg hT nT C G.T.bmain hobj hints (Nat.le_trans hlen hn2) hr hF hb (fun H hH hS => hsp H a ns hlen hbits hH hS) fun H e s' => hCX w H s₁ e s'
/-- what a head asks of the law's def -/
theorem law_F {l : PySem.W.OpenLaw} {B : Tb} {ds : List FDef} {sts : List Stmt} {anc : Nat → List Nat} {xi : Nat → Option String} {fuel n m iL : Nat} {dL : FDef} {x : Str} (hps : dL.ps = [x]) (hL : ds[iL]? = some dL)
    (C : ∀ K : PySem.W.Frag, Chk B ds sts K) {ll : List (Str × Str)} (hll : lms ds = ll) {ex : PySem.W.Frag → Bool} (hex : ∀ K, ex K = true → factsB l.prog B anc xi K = true ∧ tabUL ll K = true)
    (hev : ∀ ns : List Int, ns.length ≤ m → (∀ z ∈ ns, Builtin.Int.intBits z ≤ 1048576) → ∃ η', runF (cfgN ds (subA anc) xi fuel n) dL [.d (.lst (ns.map D.int))] [] = .ok (.d (.bl true)) η')
    (w : World) (mg : Str → Option Value) (fa : Addr) (h : Heap) (Y : ∃ K : PySem.W.Frag, K.In h ∧ Says (sts.map ddOf) (ll.map fun p => (p.1, none)) ex h K) (G : h.Ns mainGlobals mg) (hm : mg dL.x = some (.ref fa)) :
    ∃ K : PySem.W.Frag, K.In h ∧ LawAtG l w K (L2.CX l.prog w) (7 * (n + 1)) m x mg fa h := by
  obtain ⟨K, KX, c⟩ := Y
  subst hll
  have more := hex K c.more
  let Γ : Heap → Env := fun base => ⟨l.prog, w, K, mg, base, B.gs, B.ft, B.ks, B.pl, (lms ds).map fun p => (tbl K p, p.2), B.xi, B.ct, B.kw⟩
  have F : ∀ base, FactsB (Γ base) B anc xi := fun base => ⟨rfl, rfl, rfl, rfl, rfl, rfl, rfl, more.1⟩
  have D : ∀ base, (∀ p ∈ tfOf ds, LamX.TabB base mg (He.cT K p).1 (He.cT K p).2) → Defs (Γ base) B ds (subA anc) xi := fun base hT => defs_of (Γ := Γ base) (F base) KX G c.d (C K) more.2 rfl hT
  obtain ⟨st, e1, e2, e3⟩ := (C K).hc iL dL hL
  unfold chkD at e2
  simp only [Bool.and_eq_true, decide_eq_true_eq] at e2
  obtain ⟨⟨⟨k1, k2⟩, k3⟩, k4⟩ := e2
  obtain ⟨fd, FD⟩ := fun_st (Γ := Γ h) c.d e1 k3
  have hmx := (F h).fun_ (p := (dL.x, dL.ps.length)) KX G (by rw [(C K).dt]; exact List.mem_map.mpr ⟨dL, List.mem_of_getElem? hL, rfl⟩)
  have e := hm.symm.trans hmx
  cases e
  have hb1 : ∀ (s : Shared) (u : Value), K.In s.heap → BindsTo s fd ⟨[u], []⟩ [(x, u)] := fun s u hk => by
    have q := (e3 _ _ FD).1 s [u] hk (by rw [hps]; rfl)
    rw [hps] at q
    exact q
  refine ⟨K, KX, fd, (tfOf ds).map (He.cT K), fun vs H Q E => ∀ base, spF (Γ base) 1 (runF (cfgN ds (subA anc) xi fuel n) dL) vs H Q E, fun p hp => ?_, fun p hp => ?_, fun p hp => ?_, hb1, fun H a ns hl hbits hT hS base => ?_, fun base _ _ hT => ?_⟩
  · obtain ⟨q, hq, rfl⟩ := List.mem_map.mp hp
    exact c.empty q hq
  · obtain ⟨q, hq, rfl⟩ := List.mem_map.mp hp
    exact c.out q hq
  · obtain ⟨q, hq, rfl⟩ := List.mem_map.mp hp
    exact PySem.W.codeHd_of_K KX (c.hd q hq)
  · refine sp_law (fun p hp => ?_) (sq_own c.nol hS) (hev ns hl hbits)
    obtain ⟨q, hq, rfl⟩ := List.mem_map.mp hp
    exact hT (He.cT K (q.1, none)) (List.mem_map.mpr ⟨_, List.mem_map.mpr ⟨q, hq, rfl⟩, rfl⟩)
  · have D1 := D base fun p hp => hT _ (List.mem_map.mpr ⟨p, hp, rfl⟩)
    obtain ⟨f', fd', st', m1, m2, m3, m4, m5, m6, m7⟩ := D1.def_ iL dL hL
    have ef : f' = He.ga K dL.x := by
      have := m1.symm.trans hmx
      cases this
      rfl
    subst ef
    have efd : fd' = fd := by
      obtain ⟨oc, od, dV, kV, doc, pm, an, cdv, ct, osl, _, lk, _⟩ := m2.ex
      obtain ⟨oc2, od2, dV2, kV2, doc2, pm2, an2, cdv2, ct2, osl2, _, lk2, _⟩ := FD.ex
      have q : (Data.func fd') = Data.func fd := congrArg Obj.data (Option.some.inj (lk.symm.trans lk2))
      exact Data.func.inj q
    subst efd
    have q := fn_ok D1 (fnsN (fuel := fuel) D1 n) (d := dL) m2 m4 m5 m7
    rw [hps] at q
    exact q.imp fun vs H Q E z => z base
end Ip

set_option Elab.async false
set_option linter.all false
set_option maxRecDepth 100000
set_option maxHeartbeats 1000000
/-! IpDraw: the source of draws, in plain Lean. -/
namespace Ip
def kL : D := .str [108, 97, 114, 103, 101]
def kC : D := .str [99, 101, 108, 108, 115]
def kR : D := .str [114, 101, 115, 116]
def kT : D := .str [116, 117, 114, 110]
def drawD (l m : Nat) (r t : Int) : List (D × W) := [(kL, .ref l), (kC, .ref m), (kR, .d (.int r)), (kT, .d (.int t))]
def intsW (ls : List Int) : List W := ls.map fun i => .d (.int i)
structure DrawAt (η : Hv) (n l m : Nat) (ls cs : List Int) (r t : Int) : Prop where
  d : η[n]? = some (.dct (drawD l m r t))
  hl : η[l]? = some (.lst (intsW ls))
  hm : η[m]? = some (.lst (intsW cs))
  lm : l ≠ m
theorem dats_ints : ∀ ls : List Int, dats (intsW ls) = some (ls.map D.int)
  | [] => rfl
  | i :: ls => by
    show (dats (intsW ls)).map (D.int i :: ·) = _
    rw [dats_ints ls]
    rfl
theorem get_L {l m : Nat} {r t : Int} : getK (drawD l m r t) kL = some (.ref l) := by kernel_rfl
theorem get_C {l m : Nat} {r t : Int} : getK (drawD l m r t) kC = some (.ref m) := by kernel_rfl
theorem get_R {l m : Nat} {r t : Int} : getK (drawD l m r t) kR = some (.d (.int r)) := by kernel_rfl
theorem get_T {l m : Nat} {r t : Int} : getK (drawD l m r t) kT = some (.d (.int t)) := by kernel_rfl
theorem set_R {l m : Nat} {r t r' : Int} : setK (drawD l m r t) kR (.d (.int r')) = drawD l m r' t := by kernel_rfl
theorem set_T {l m : Nat} {r t t' : Int} : setK (drawD l m r t) kT (.d (.int t')) = drawD l m r t' := by kernel_rfl
theorem kk_L : (keyK kL).isSome = true := rfl
theorem kk_C : (keyK kC).isSome = true := rfl
theorem kk_R : (keyK kR).isSome = true := rfl
theorem kk_T : (keyK kT).isSome = true := rfl
section
variable {c : Cfg} {η : Hv} {n l m : Nat} {ls cs : List Int} {r t : Int}
theorem DrawAt.gL (h : DrawAt η n l m ls cs r t) : dgetW (.ref n) (.d kL) η = .ok (.ref l) η := by simp [dgetW, h.d, kk_L, get_L]
theorem DrawAt.gC (h : DrawAt η n l m ls cs r t) : dgetW (.ref n) (.d kC) η = .ok (.ref m) η := by simp [dgetW, h.d, kk_C, get_C]
theorem DrawAt.gR (h : DrawAt η n l m ls cs r t) : dgetW (.ref n) (.d kR) η = .ok (.d (.int r)) η := by simp [dgetW, h.d, kk_R, get_R]
theorem DrawAt.gT (h : DrawAt η n l m ls cs r t) : dgetW (.ref n) (.d kT) η = .ok (.d (.int t)) η := by simp [dgetW, h.d, kk_T, get_T]
theorem DrawAt.sR (h : DrawAt η n l m ls cs r t) (r' : Int) : dsetW (.ref n) (.d kR) (.d (.int r')) η = .ok () (η.set n (.dct (drawD l m r' t))) := by
  have : (drawD l m r t).length < lim := by show 4 < lim; unfold lim; omega
  simp [dsetW, h.d, kk_R, set_R, this]
theorem DrawAt.sT (h : DrawAt η n l m ls cs r t) (t' : Int) : dsetW (.ref n) (.d kT) (.d (.int t')) η = .ok () (η.set n (.dct (drawD l m r t'))) := by
  have : (drawD l m r t).length < lim := by show 4 < lim; unfold lim; omega
  simp [dsetW, h.d, kk_T, set_T, this]
theorem DrawAt.nl (h : DrawAt η n l m ls cs r t) : n ≠ l := fun e => by
  have := h.hl
  rw [← e, h.d] at this
  cases this
theorem DrawAt.nm (h : DrawAt η n l m ls cs r t) : n ≠ m := fun e => by
  have := h.hm
  rw [← e, h.d] at this
  cases this
theorem DrawAt.lt (h : DrawAt η n l m ls cs r t) : n < η.length := by
  have := h.d
  exact (List.getElem?_eq_some_iff.mp this).1
theorem DrawAt.put (h : DrawAt η n l m ls cs r t) (r' t' : Int) : DrawAt (η.set n (.dct (drawD l m r' t'))) n l m ls cs r' t' :=
  ⟨by rw [List.getElem?_set_self h.lt], by rw [List.getElem?_set_ne h.nl]; exact h.hl, by rw [List.getElem?_set_ne h.nm]; exact h.hm, h.lm⟩
/-- the cells, one behind another -/
def blC : Sm := (.sq (.asg 4 (.pr (.bin .mod) (.cons (.pr (.fn .int) (.cons (.pr (.bin .add) (.cons (.pr (.bin .add) (.cons (.pr (.bin .mul) (.cons (.var 4) (.cons (.cst (.int 48271)) .nil))) (.cons (.pr (.fn .int) (.cons (.var 5) .nil)) .nil))) (.cons (.cst (.int 1)) .nil))) .nil)) (.cons (.var 3) .nil)))) .sk)
def blP : Sm := (.sq (.asg 4 (.pr (.bin .mod) (.cons (.pr (.fn .int) (.cons (.pr (.bin .add) (.cons (.pr (.bin .mul) (.cons (.var 1) (.cons (.cst (.int 69621)) .nil))) (.cons (.pr (.bin .fdiv) (.cons (.var 3) (.cons (.cst (.int 7)) .nil))) .nil))) .nil)) (.cons (.var 3) .nil))))
 (.sq (.forr .plain (.var 5) (.cons (.dget (.var 0) (.cst (.str [99, 101, 108, 108, 115]))) .nil) blC)
 (.sq (.asg 2 (.pr (.bin .add) (.cons (.pr (.bin .mul) (.cons (.var 2) (.cons (.cst (.int 2147483647)) .nil))) (.cons (.pr (.bin .mod) (.cons (.pr (.fn .int) (.cons (.pr (.bin .pow) (.cons (.var 4) (.cons (.cst (.int 5)) .nil))) .nil)) (.cons (.var 3) .nil))) .nil))))
 .sk)))
def blPs : Ex := .pr .lst (.cons (.cst (.int 2147483629)) (.cons (.cst (.int 2147483587)) (.cons (.cst (.int 2147483579)) .nil)))
def smBlend : Sm := (.sq (.par [1, 2] (.cons (.pr (.bin .add) (.cons (.dget (.var 0) (.cst (.str [116, 117, 114, 110]))) (.cons (.cst (.int 1)) .nil))) (.cons (.cst (.int 0)) .nil)))
 (.sq (.dset (.var 0) (.cst (.str [116, 117, 114, 110])) (.var 1))
 (.sq (.forr .plain (.var 3) (.cons blPs .nil) blP)
 (.sq (.ret (.var 2))
 .sk))))
theorem blC_run {w0 w1 w2 : Option W} {p s x : Int} (hp : p ≠ 0) : sx c blC [w0, w1, w2, some (.d (.int p)), some (.d (.int s)), some (.d (.int x))] η = .nx [w0, w1, w2, some (.d (.int p)), some (.d (.int ((s * 48271 + x + 1).fmod p))), some (.d (.int x))] η := by
  simp [blC, sx, ev, evl, O.ofE, rdP, strictP, asR, rdWs, rdW, dprim, dbin, dfn, ofO, hp, M.bind_ap]
theorem fmod_in {a p : Int} (hp : 0 < p) : 0 ≤ a.fmod p ∧ a.fmod p < p := ⟨Int.fmod_nonneg_of_pos a hp, Int.fmod_lt_of_pos a hp⟩
theorem DrawAt.sn (h : DrawAt η n l m ls cs r t) : snap .plain [.ref m] η = some (.ds [.lst (cs.map D.int)]) := by
  simp [snap, rdWs, rdW, h.hm, dats_ints]
abbrev stC : W → List (Option W) → Hv → O := fun x ν h => match bindP (.var 5) x ν with
  | some ν' => sx c blC ν' h
  | none => .bad
theorem loopC (h : DrawAt η n l m ls cs r t) {w0 w1 w2 : Option W} {p : Int} (hp : 0 < p) : ∀ (xs : List Int) (s : Int) (w5 : Option W), 0 ≤ s ∧ s < p →
    ∃ s' w5', (0 ≤ s' ∧ s' < p) ∧ loopS .plain [.ref m] (.ds [.lst (cs.map D.int)]) (stC (c := c)) (intsW xs) [w0, w1, w2, some (.d (.int p)), some (.d (.int s)), w5] η = .nx [w0, w1, w2, some (.d (.int p)), some (.d (.int s')), w5'] η
  | [], s, w5, hs => ⟨s, w5, hs, by simp [intsW, loopS, h.sn]⟩
  | x :: xs, s, w5, hs => by
    obtain ⟨s', w5', h1, h2⟩ := loopC h hp xs ((s * 48271 + x + 1).fmod p) (some (.d (.int x))) (fmod_in hp)
    refine ⟨s', w5', h1, ?_⟩
    have e : stC (c := c) (.d (.int x)) [w0, w1, w2, some (.d (.int p)), some (.d (.int s)), w5] η = .nx [w0, w1, w2, some (.d (.int p)), some (.d (.int ((s * 48271 + x + 1).fmod p))), some (.d (.int x))] η := by
      show sx c blC [w0, w1, w2, some (.d (.int p)), some (.d (.int s)), some (.d (.int x))] η = _
      exact blC_run (by omega)
    show (if snap .plain [.ref m] η = some _ then _ else _) = _
    rw [if_pos h.sn, e]
    exact h2
theorem forC (h : DrawAt η n l m ls cs r t) {w1 w2 w5 : Option W} {p s : Int} (hp : 0 < p) (hs : 0 ≤ s ∧ s < p) : ∃ s' w5', (0 ≤ s' ∧ s' < p) ∧
    sx c (.forr .plain (.var 5) (.cons (.dget (.var 0) (.cst (.str [99, 101, 108, 108, 115]))) .nil) blC) [some (.ref n), w1, w2, some (.d (.int p)), some (.d (.int s)), w5] η = .nx [some (.ref n), w1, w2, some (.d (.int p)), some (.d (.int s')), w5'] η := by
  obtain ⟨s', w5', h1, h2⟩ := loopC (c := c) h (w0 := some (.ref n)) (w1 := w1) (w2 := w2) hp cs s w5 hs
  refine ⟨s', w5', h1, ?_⟩
  rw [← h2]
  have g : dgetW (.ref n) (.d (.str [99, 101, 108, 108, 115])) η = .ok (.ref m) η := h.gC
  have e : itS .plain (.ds [.lst (cs.map D.int)]) = some (intsW cs) := by simp [itS, itD, intsW]
  simp [sx, ev, evl, O.ofE, M.bind_ap, g, snapM, h.sn, ofO, e, stC] <;> rfl
theorem blP_run (h : DrawAt η n l m ls cs r t) {tn f p : Int} {w4 w5 : Option W} (hp : 0 < p) (hp2 : p < 2 ^ 40) : ∃ f' w4' w5',
    sx c blP [some (.ref n), some (.d (.int tn)), some (.d (.int f)), some (.d (.int p)), w4, w5] η = .nx [some (.ref n), some (.d (.int tn)), some (.d (.int f')), some (.d (.int p)), w4', w5'] η := by
  obtain ⟨s', w5', h1, h2⟩ := forC (c := c) h (w1 := some (.d (.int tn))) (w2 := some (.d (.int f))) (w5 := w5) hp (fmod_in (a := tn * 69621 + p.fdiv 7) hp)
  have hp0 : p ≠ 0 := by omega
  have e1 : sx c (.asg 4 (.pr (.bin .mod) (.cons (.pr (.fn .int) (.cons (.pr (.bin .add) (.cons (.pr (.bin .mul) (.cons (.var 1) (.cons (.cst (.int 69621)) .nil))) (.cons (.pr (.bin .fdiv) (.cons (.var 3) (.cons (.cst (.int 7)) .nil))) .nil))) .nil)) (.cons (.var 3) .nil)))) [some (.ref n), some (.d (.int tn)), some (.d (.int f)), some (.d (.int p)), w4, w5] η =
      .nx [some (.ref n), some (.d (.int tn)), some (.d (.int f)), some (.d (.int p)), some (.d (.int ((tn * 69621 + p.fdiv 7).fmod p))), w5] η := by
    simp [sx, ev, evl, O.ofE, rdP, strictP, asR, rdWs, rdW, dprim, dbin, dfn, ofO, hp0, M.bind_ap]
  have hs : s'.natAbs < 2 ^ 64 := by omega
  have e3 : sx c (.asg 2 (.pr (.bin .add) (.cons (.pr (.bin .mul) (.cons (.var 2) (.cons (.cst (.int 2147483647)) .nil))) (.cons (.pr (.bin .mod) (.cons (.pr (.fn .int) (.cons (.pr (.bin .pow) (.cons (.var 4) (.cons (.cst (.int 5)) .nil))) .nil)) (.cons (.var 3) .nil))) .nil)))) [some (.ref n), some (.d (.int tn)), some (.d (.int f)), some (.d (.int p)), some (.d (.int s')), w5'] η =
      .nx [some (.ref n), some (.d (.int tn)), some (.d (.int (f * 2147483647 + (s' ^ 5).fmod p))), some (.d (.int p)), some (.d (.int s')), w5'] η := by
    simp [sx, ev, evl, O.ofE, rdP, strictP, asR, rdWs, rdW, dprim, dbin, dfn, ofO, hp0, hs, M.bind_ap]
  refine ⟨f * 2147483647 + (s' ^ 5).fmod p, some (.d (.int s')), w5', ?_⟩
  show (match sx c _ _ η with
    | .nx ν' h' => _
    | o => o) = _
  rw [e1]
  show (match sx c (.forr .plain (.var 5) _ blC) _ η with
    | .nx ν' h' => _
    | o => o) = _
  rw [h2]
  show (match sx c (.asg 2 _) _ η with
    | .nx ν' h' => _
    | o => o) = _
  rw [e3]
  rfl
theorem sx_sq {a b : Sm} {ν ν' : List (Option W)} {η η' : Hv} (h : sx c a ν η = .nx ν' η') : sx c (.sq a b) ν η = sx c b ν' η' := by
  show (match sx c a ν η with
    | .nx ν' h' => sx c b ν' h'
    | o => o) = _
  rw [h]
abbrev prs : List D := [.int 2147483629, .int 2147483587, .int 2147483579]
abbrev stP : W → List (Option W) → Hv → O := fun x ν h => match bindP (.var 3) x ν with
  | some ν' => sx c blP ν' h
  | none => .bad
theorem stP_run (h : DrawAt η n l m ls cs r t) {tn f p : Int} {w3 w4 w5 : Option W} (hp : 0 < p) (hp2 : p < 2 ^ 40) : ∃ f' w4' w5',
    stP (c := c) (.d (.int p)) [some (.ref n), some (.d (.int tn)), some (.d (.int f)), w3, w4, w5] η = .nx [some (.ref n), some (.d (.int tn)), some (.d (.int f')), some (.d (.int p)), w4', w5'] η := blP_run h hp hp2
theorem sn_lit {ws : List W} {ds : List D} (e : rdWs η ws = some ds) : snap .plain ws η = some (.ds ds) := by simp [snap, e]
theorem loopP (h : DrawAt η n l m ls cs r t) {tn : Int} : ∀ (ps : List Int) (f : Int) (w3 w4 w5 : Option W), (∀ p ∈ ps, 0 < p ∧ p < 2 ^ 40) → ∃ f' w3' w4' w5',
    loopS .plain [.d (.lst prs)] (.ds [.lst prs]) (stP (c := c)) (intsW ps) [some (.ref n), some (.d (.int tn)), some (.d (.int f)), w3, w4, w5] η = .nx [some (.ref n), some (.d (.int tn)), some (.d (.int f')), w3', w4', w5'] η
  | [], f, w3, w4, w5, _ => ⟨f, w3, w4, w5, by simp [intsW, loopS, snap, rdWs, rdW]⟩
  | p :: ps, f, w3, w4, w5, hps => by
    obtain ⟨f1, a4, a5, e⟩ := stP_run (c := c) h (tn := tn) (f := f) (w3 := w3) (w4 := w4) (w5 := w5) (hps p (List.mem_cons_self ..)).1 (hps p (List.mem_cons_self ..)).2
    obtain ⟨f2, b3, b4, b5, e2⟩ := loopP h (tn := tn) ps f1 (some (.d (.int p))) a4 a5 fun q hq => hps q (List.mem_cons_of_mem _ hq)
    refine ⟨f2, b3, b4, b5, ?_⟩
    show (if snap .plain [.d (.lst prs)] η = some _ then _ else _) = _
    rw [if_pos (by simp [snap, rdWs, rdW]), e]
    exact e2
theorem forP (h : DrawAt η n l m ls cs r t) {tn : Int} : ∃ f' w3' w4' w5',
    sx c (.forr .plain (.var 3) (.cons blPs .nil) blP) [some (.ref n), some (.d (.int tn)), some (.d (.int 0)), none, none, none] η = .nx [some (.ref n), some (.d (.int tn)), some (.d (.int f')), w3', w4', w5'] η := by
  obtain ⟨f', a3, a4, a5, e⟩ := loopP (c := c) h (tn := tn) [2147483629, 2147483587, 2147483579] 0 none none none (by simp)
  refine ⟨f', a3, a4, a5, ?_⟩
  rw [← e]
  have hl : (3 : Nat) ≤ lim := by unfold lim; omega
  simp [sx, ev, evl, blPs, O.ofE, M.bind_ap, rdP, strictP, dats, dprim, hl, snapM, snap, rdWs, rdW, ofO, itS, itD, intsW] <;> rfl
theorem runF_ret {d : FDef} {ws : List W} {w : W} {η η' : Hv} (h : sx c d.sm (startV d.N ws) η = .ret w η') : runF c d ws η = .ok w η' := by
  unfold runF
  rw [h]
def dBlend : FDef := ⟨"_law_blend", ["draw"], ["draw", "turn", "found", "prime", "stirred", "cell"], smBlend, none⟩
/-- _law_blend -/
theorem blend_run (h : DrawAt η n l m ls cs r t) : ∃ v, runF c dBlend [.ref n] η = .ok (.d (.int v)) (η.set n (.dct (drawD l m r (t + 1)))) := by
  have h1 := h.put r (t + 1)
  obtain ⟨f', a3, a4, a5, e⟩ := forP (c := c) h1 (tn := t + 1)
  refine ⟨f', ?_⟩
  have g : dgetW (.ref n) (.d (.str [116, 117, 114, 110])) η = .ok (.d (.int t)) η := h.gT
  have st : dsetW (.ref n) (.d (.str [116, 117, 114, 110])) (.d (.int (t + 1))) η = .ok () (η.set n (.dct (drawD l m r (t + 1)))) := h.sT (t + 1)
  have s1 : sx c (.par [1, 2] (.cons (.pr (.bin .add) (.cons (.dget (.var 0) (.cst (.str [116, 117, 114, 110]))) (.cons (.cst (.int 1)) .nil))) (.cons (.cst (.int 0)) .nil))) [some (.ref n), none, none, none, none, none] η = .nx [some (.ref n), some (.d (.int (t + 1))), some (.d (.int 0)), none, none, none] η := by
    simp [sx, ev, evl, O.ofE, M.bind_ap, g, rdP, strictP, asR, rdWs, rdW, dprim, dbin, ofO, setL]
  have s2 : sx c (.dset (.var 0) (.cst (.str [116, 117, 114, 110])) (.var 1)) [some (.ref n), some (.d (.int (t + 1))), some (.d (.int 0)), none, none, none] η = .nx [some (.ref n), some (.d (.int (t + 1))), some (.d (.int 0)), none, none, none] (η.set n (.dct (drawD l m r (t + 1)))) := by
    simp [sx, ev, evl, O.ofE, M.bind_ap, st]
  refine runF_ret ?_
  show sx c smBlend [some (.ref n), none, none, none, none, none] η = _
  unfold smBlend
  rw [sx_sq s1, sx_sq s2, sx_sq e]
  simp [sx, ev, O.ofE]
theorem shp_ints (ls : List Int) : shp (.lst (ls.map D.int)) = true := by
  have h1 : plnL (ls.map D.int) = true := by
    rw [plnL_all]
    simp [pln]
  have h2 : depL (ls.map D.int) = 0 := by
    induction ls with
    | nil => simp [depL]
    | cons i ls ih => simp only [List.map_cons, depL, dep, ih (by rw [plnL_all]; simp [pln])]; rfl
  simp [shp, pln, dep, h1, h2]
theorem shp_int (i : Int) : shp (.int i) = true := by simp [shp, pln, dep]
theorem shp_nil : shp (.lst []) = true := shp_ints []
theorem eqv_nil (ls : List Int) : eqv (.lst (ls.map D.int)) (.lst []) = ls.isEmpty := by
  cases ls <;> simp [eqv, eqvL]
theorem eqv_int (i j : Int) : eqv (.int i) (.int j) = (i == j) := by simp [eqv]
/-- what else stands, stays -/
structure Fr (η η' : Hv) (n l : Nat) : Prop where
  len : η'.length = η.length
  same : ∀ k, k ≠ n → k ≠ l → η'[k]? = η[k]?
theorem Fr.refl : Fr η η n l := ⟨rfl, fun _ _ _ => rfl⟩
theorem Fr.trans {η1 η2 : Hv} (a : Fr η η1 n l) (b : Fr η1 η2 n l) : Fr η η2 n l := ⟨b.len.trans a.len, fun k h1 h2 => (b.same k h1 h2).trans (a.same k h1 h2)⟩
theorem Fr.setN {o : VO} : Fr η (η.set n o) n l := ⟨by simp, fun k h1 _ => by rw [List.getElem?_set_ne (Ne.symm h1)]⟩
theorem Fr.setL {o : VO} : Fr η (η.set l o) n l := ⟨by simp, fun k _ h1 => by rw [List.getElem?_set_ne (Ne.symm h1)]⟩
theorem DrawAt.ltl (h : DrawAt η n l m ls cs r t) : l < η.length := (List.getElem?_eq_some_iff.mp h.hl).1
theorem DrawAt.popd {x : Int} (h : DrawAt η n l m (x :: ls) cs r t) : DrawAt (η.set l (.lst (intsW ls))) n l m ls cs r t :=
  ⟨by rw [List.getElem?_set_ne (Ne.symm h.nl)]; exact h.d, by rw [List.getElem?_set_self h.ltl], by rw [List.getElem?_set_ne h.lm]; exact h.hm, h.lm⟩
abbrev gR0 : Ex := .dget (.var 0) (.cst (.str [114, 101, 115, 116]))
abbrev gL0 : Ex := .dget (.var 0) (.cst (.str [108, 97, 114, 103, 101]))
abbrev tkC : Ex := (.and (.pr (.cmp .eq) (.cons gR0 (.cons (.cst (.int 0)) .nil))) (.pr (.cmp .ne) (.cons gL0 (.cons (.pr .lst .nil) .nil))))
abbrev tkB : Sm := (.sq (.dset (.var 0) (.cst (.str [114, 101, 115, 116])) (.popi gL0 (.cst (.int 0)))) .sk)
def smTake (iB : Nat) : Sm := (.sq (.whl tkC tkB)
 (.sq (.ife (.pr (.cmp .eq) (.cons gR0 (.cons (.cst (.int 0)) .nil)))
 (.sq (.dset (.var 0) (.cst (.str [114, 101, 115, 116])) (.call 1 iB (.cons (.var 0) .nil))) .sk)
 .sk)
 (.sq (.asg 2 (.pr (.bin .mod) (.cons (.pr (.fn .int) (.cons gR0 .nil)) (.cons (.var 1) .nil))))
 (.sq (.dset (.var 0) (.cst (.str [114, 101, 115, 116])) (.pr (.bin .fdiv) (.cons (.pr (.fn .int) (.cons gR0 .nil)) (.cons (.var 1) .nil))))
 (.sq (.ret (.var 2))
 .sk)))))
theorem tkC_run (h : DrawAt η n l m ls cs r t) {w1 w2 : Option W} : ev c tkC [some (.ref n), w1, w2] η = .ok (.d (.bl (decide (r = 0) && !ls.isEmpty))) η := by
  have g1 : dgetW (.ref n) (.d (.str [114, 101, 115, 116])) η = .ok (.d (.int r)) η := h.gR
  have g2 : dgetW (.ref n) (.d (.str [108, 97, 114, 103, 101])) η = .ok (.ref l) η := h.gL
  have e0 : (0 : Nat) ≤ lim := Nat.zero_le _
  by_cases hr : r = 0
  · subst hr
    simp [ev, evl, M.bind_ap, g1, g2, rdP, strictP, asR, rdWs, rdW, h.hl, dats_ints, dats, dprim, dcmp, eqD, shp_int, shp_ints, shp_nil, eqv_nil, eqv_int, ofO, asB]
  · simp [ev, evl, M.bind_ap, g1, g2, rdP, strictP, asR, rdWs, rdW, h.hl, dats_ints, dats, dprim, dcmp, eqD, shp_int, shp_ints, shp_nil, eqv_nil, eqv_int, ofO, asB, hr]
theorem tkB_run {x : Int} (h : DrawAt η n l m (x :: ls) cs r t) {w1 w2 : Option W} : ∃ η', sx c tkB [some (.ref n), w1, w2] η = .nx [some (.ref n), w1, w2] η' ∧ DrawAt η' n l m ls cs x t ∧ Fr η η' n l := by
  have g2 : dgetW (.ref n) (.d (.str [108, 97, 114, 103, 101])) η = .ok (.ref l) η := h.gL
  have h2 := h.popd
  have g3 : dsetW (.ref n) (.d (.str [114, 101, 115, 116])) (.d (.int x)) (η.set l (.lst (intsW ls))) = .ok () _ := h2.sR x
  have hl : η[l]? = some (.lst (.d (.int x) :: intsW ls)) := h.hl
  refine ⟨_, ?_, h2.put x t, (Fr.setL).trans Fr.setN⟩
  simp [sx, ev, O.ofE, M.bind_ap, g2, chkL, hl, popiW, L2.ixN, g3]
theorem whl_run {w1 w2 : Option W} : ∀ (ls : List Int) (fuel : Nat) (η : Hv) (r : Int), DrawAt η n l m ls cs r t → ls.length < fuel → ∃ ls' r' η', loopW (ev c tkC) (sx c tkB) fuel [some (.ref n), w1, w2] η = .nx [some (.ref n), w1, w2] η' ∧ DrawAt η' n l m ls' cs r' t ∧ Fr η η' n l ∧ ls'.length ≤ ls.length
  | ls, 0, η, r, h, hf => absurd hf (Nat.not_lt_zero _)
  | [], fuel + 1, η, r, h, hf => ⟨[], r, η, by
      show O.ofE _ (ev c tkC _ η) _ = _
      rw [tkC_run h]
      simp [O.ofE], h, Fr.refl, Nat.le_refl _⟩
  | x :: ls, fuel + 1, η, r, h, hf => by
    by_cases hr : r = 0
    · obtain ⟨η1, e1, h1, f1⟩ := tkB_run (c := c) h (w1 := w1) (w2 := w2)
      obtain ⟨ls', r', η', e2, h2, f2, l2⟩ := whl_run ls fuel η1 x h1 (by simpa using hf)
      refine ⟨ls', r', η', ?_, h2, f1.trans f2, Nat.le_trans l2 (Nat.le_succ _)⟩
      show O.ofE _ (ev c tkC _ η) _ = _
      rw [tkC_run h]
      simp only [O.ofE, hr, List.isEmpty_cons, decide_true, Bool.not_false, Bool.and_self, e1]
      exact e2
    · refine ⟨x :: ls, r, η, ?_, h, Fr.refl, Nat.le_refl _⟩
      show O.ofE _ (ev c tkC _ η) _ = _
      rw [tkC_run h]
      simp [O.ofE, hr]
def dTake (iB : Nat) : FDef := ⟨"_law_take", ["draw", "size"], ["draw", "size", "found"], smTake iB, none⟩
/-- _law_take -/
theorem take_run {iB : Nat} {size : Int} (h : DrawAt η n l m ls cs r t) (hf : ls.length < c.fuel) (hs : 0 < size) (hs2 : size < 1073741824) (hc : ∃ c', ∀ ws η, c.call 1 iB ws η = runF c' dBlend ws η) :
    ∃ v ls' r' t' η', runF c (dTake iB) [.ref n, .d (.int size)] η = .ok (.d (.int v)) η' ∧ (0 ≤ v ∧ v < size) ∧ DrawAt η' n l m ls' cs r' t' ∧ Fr η η' n l ∧ ls'.length ≤ ls.length := by
  obtain ⟨c', hc⟩ := hc
  obtain ⟨ls1, r1, η1, e1, h1, f1, l1⟩ := whl_run (c := c) (w1 := some (.d (.int size))) (w2 := none) ls c.fuel η r h hf
  have s1 : sx c (.whl tkC tkB) [some (.ref n), some (.d (.int size)), none] η = .nx [some (.ref n), some (.d (.int size)), none] η1 := e1
  have s2 : ∃ r2 t2 η2, sx c (.ife (.pr (.cmp .eq) (.cons gR0 (.cons (.cst (.int 0)) .nil))) (.sq (.dset (.var 0) (.cst (.str [114, 101, 115, 116])) (.call 1 iB (.cons (.var 0) .nil))) .sk) .sk) [some (.ref n), some (.d (.int size)), none] η1 = .nx [some (.ref n), some (.d (.int size)), none] η2 ∧ DrawAt η2 n l m ls1 cs r2 t2 ∧ Fr η1 η2 n l := by
    have g1 : dgetW (.ref n) (.d (.str [114, 101, 115, 116])) η1 = .ok (.d (.int r1)) η1 := h1.gR
    have tst : ev c (.pr (.cmp .eq) (.cons gR0 (.cons (.cst (.int 0)) .nil))) [some (.ref n), some (.d (.int size)), none] η1 = .ok (.d (.bl (r1 == 0))) η1 := by
      simp [ev, evl, M.bind_ap, g1, rdP, strictP, asR, rdWs, rdW, dprim, dcmp, eqD, shp_int, eqv_int, ofO]
    by_cases hr : r1 = 0
    · obtain ⟨v, ev1⟩ := blend_run (c := c') h1
      have h2 := h1.put r1 (t + 1)
      have g3 : dsetW (.ref n) (.d (.str [114, 101, 115, 116])) (.d (.int v)) (η1.set n (.dct (drawD l m r1 (t + 1)))) = .ok () _ := h2.sR v
      have ec : c.call 1 iB [.ref n] η1 = .ok (.d (.int v)) (η1.set n (.dct (drawD l m r1 (t + 1)))) := by rw [hc]; exact ev1
      have cal : sx c (.dset (.var 0) (.cst (.str [114, 101, 115, 116])) (.call 1 iB (.cons (.var 0) .nil))) [some (.ref n), some (.d (.int size)), none] η1 = .nx [some (.ref n), some (.d (.int size)), none] ((η1.set n (.dct (drawD l m r1 (t + 1)))).set n (.dct (drawD l m v (t + 1)))) := by
        simp only [sx, ev, evl, O.ofE, M.bind_ap, M.pure_ap, List.getElem?_cons_zero, ec, g3]
      refine ⟨v, t + 1, _, ?_, h2.put v (t + 1), (Fr.setN).trans Fr.setN⟩
      have hb : (r1 == 0) = true := by simp [hr]
      rw [hb] at tst
      show O.ofE _ (ev c _ _ η1) _ = _
      rw [tst]
      show sx c (.sq (.dset (.var 0) (.cst (.str [114, 101, 115, 116])) (.call 1 iB (.cons (.var 0) .nil))) .sk) _ _ = _
      rw [sx_sq cal]
      rfl
    · refine ⟨r1, t, η1, ?_, h1, Fr.refl⟩
      have hb : (r1 == 0) = false := by simp [hr]
      rw [hb] at tst
      show O.ofE _ (ev c _ _ η1) _ = _
      rw [tst]
      rfl
  obtain ⟨r2, t2, η2, s2, h2, f2⟩ := s2
  have g1 : dgetW (.ref n) (.d (.str [114, 101, 115, 116])) η2 = .ok (.d (.int r2)) η2 := h2.gR
  have g3 : dsetW (.ref n) (.d (.str [114, 101, 115, 116])) (.d (.int (r2.fdiv size))) η2 = .ok () _ := h2.sR (r2.fdiv size)
  have hs0 : size ≠ 0 := by omega
  have hs3 : size.natAbs < 1073741824 := by omega
  have s3 : sx c (.asg 2 (.pr (.bin .mod) (.cons (.pr (.fn .int) (.cons gR0 .nil)) (.cons (.var 1) .nil)))) [some (.ref n), some (.d (.int size)), none] η2 = .nx [some (.ref n), some (.d (.int size)), some (.d (.int (r2.fmod size)))] η2 := by
    simp [sx, ev, evl, O.ofE, M.bind_ap, g1, rdP, strictP, asR, rdWs, rdW, dprim, dbin, dfn, ofO, hs0]
  have s4 : sx c (.dset (.var 0) (.cst (.str [114, 101, 115, 116])) (.pr (.bin .fdiv) (.cons (.pr (.fn .int) (.cons gR0 .nil)) (.cons (.var 1) .nil)))) [some (.ref n), some (.d (.int size)), some (.d (.int (r2.fmod size)))] η2 = .nx [some (.ref n), some (.d (.int size)), some (.d (.int (r2.fmod size)))] (η2.set n (.dct (drawD l m (r2.fdiv size) t2))) := by
    simp [sx, ev, evl, O.ofE, M.bind_ap, g1, rdP, strictP, asR, rdWs, rdW, dprim, dbin, dfn, ofO, hs0, hs3, g3]
  refine ⟨r2.fmod size, ls1, r2.fdiv size, t2, _, runF_ret ?_, fmod_in hs, h2.put _ _, (f1.trans f2).trans Fr.setN, l1⟩
  show sx c (smTake iB) [some (.ref n), some (.d (.int size)), none] η = _
  unfold smTake
  rw [sx_sq s1, sx_sq s2, sx_sq s3, sx_sq s4]
  simp [sx, ev, O.ofE]
def smPick (iT : Nat) : Sm := (.sq (.ret (.pr .item (.cons (.var 1) (.cons (.call 1 iT (.cons (.var 0) (.cons (.pr (.fn .len) (.cons (.var 1) .nil)) .nil))) .nil)))) .sk)
def dPick (iT : Nat) : FDef := ⟨"_law_pick", ["draw", "some"], ["draw", "some"], smPick iT, none⟩
/-- _law_pick: a member -/
theorem pick_run {iT iB : Nat} {xs : List D} (h : DrawAt η n l m ls cs r t) (hx : xs ≠ []) (hx2 : xs.length < 1073741824) (hc : ∃ c', ls.length < c'.fuel ∧ (∃ c'', ∀ ws η, c'.call 1 iB ws η = runF c'' dBlend ws η) ∧ ∀ ws η, c.call 1 iT ws η = runF c' (dTake iB) ws η) :
    ∃ x ls' r' t' η', runF c (dPick iT) [.ref n, .d (.lst xs)] η = .ok (.d x) η' ∧ x ∈ xs ∧ DrawAt η' n l m ls' cs r' t' ∧ Fr η η' n l ∧ ls'.length ≤ ls.length := by
  obtain ⟨c', hf, hc2, hc⟩ := hc
  have hp : 0 < (xs.length : Int) := by
    have : 0 < xs.length := List.length_pos_iff.mpr hx
    omega
  obtain ⟨v, ls', r', t', η', e, ⟨v0, v1⟩, h', f', l'⟩ := take_run (iB := iB) h hf hp (by omega) hc2
  have hv : v.toNat < xs.length := by omega
  refine ⟨xs[v.toNat], ls', r', t', η', runF_ret ?_, List.getElem_mem hv, h', f', l'⟩
  have ec : c.call 1 iT [.ref n, .d (.int (xs.length : Int))] η = .ok (.d (.int v)) η' := by rw [hc]; exact e
  have ea : L2.atI xs v = some xs[v.toNat] := by
    unfold L2.atI L2.ixN
    rw [if_pos v0, if_pos v1, Option.bind_some, List.getElem?_eq_getElem hv]
  show sx c (smPick iT) [some (.ref n), some (.d (.lst xs))] η = _
  simp [smPick, sx, ev, evl, O.ofE, M.bind_ap, rdP, strictP, asR, rdWs, rdW, dprim, dfn, dlen, ofO, ec, ditem, ea]
theorem evl_cons {x r : Ex} {a : W} {ws : List W} {ν : List (Option W)} {η η1 η2 : Hv} (h1 : ev c x ν η = .ok a η1) (h2 : evl c r ν η1 = .ok ws η2) : evl c (.cons x r) ν η = .ok (a :: ws) η2 :=
  (show ((ev c x ν >>= fun w => evl c r ν >>= fun ws => Pure.pure (w :: ws) : M (List W)) η = _) from (M.bind_ok h1).trans (M.bind_ok h2))
theorem loopM_pure {α : Type} {k : Ik} {ws : List W} {sn : Snap} {f : W → M (List α)} {g : W → List α} (hs : snap k ws η = some sn) : ∀ its : List W, (∀ x ∈ its, f x η = .ok (g x) η) → loopM k ws sn f its η = .ok (its.flatMap g) η
  | [], _ => by simp [loopM, hs]
  | x :: xs, h => by
    simp only [loopM, hs, if_true, M.bind_ap, h x (List.mem_cons_self ..), loopM_pure hs xs fun y hy => h y (List.mem_cons_of_mem _ hy), M.pure_ap, List.flatMap_cons]
abbrev bgA : Ex := .pr (.fn .abs) (.cons (.var 2) .nil)
abbrev bgP : Ex := .pr (.bin .pow) (.cons (.cst (.int 10)) (.cons (.cst (.int 18)) .nil))
abbrev bgL : Ex := (.lc true [2] .plain (.var 2) (.cons (.var 0) .nil) (.gif (.pr (.cmp .ge) (.cons bgA (.cons bgP .nil))) (.yld (.pr (.bin .sub) (.cons bgA (.cons bgP .nil))))))
abbrev bgC : Ex := (.lc true [2] .plain (.var 2) (.cons (.var 0) .nil) (.yld bgA))
def smBegun : Sm := (.sq (.asg 1 bgL)
 (.sq (.ret (.ndct (.cons (.cst (.str [108, 97, 114, 103, 101])) (.cons (.var 1) (.cons (.cst (.str [99, 101, 108, 108, 115])) (.cons bgC (.cons (.cst (.str [114, 101, 115, 116])) (.cons (.cst (.int 0)) (.cons (.cst (.str [116, 117, 114, 110])) (.cons (.cst (.int 0)) .nil))))))))))
 .sk))
def dBegun : FDef := ⟨"_law_begun", ["script"], ["script", "large", "cell"], smBegun, none⟩
def absI (i : Int) : Int := if i < 0 then -i else i
def lgs (ns : List Int) : List Int := (ns.filter fun i => decide ((10 : Int) ^ 18 ≤ absI i)).map fun i => absI i - 10 ^ 18
theorem bgA_run {w0 w1 : Option W} {i : Int} : ev c bgA [w0, w1, some (.d (.int i))] η = .ok (.d (.int (absI i))) η := by
  simp [ev, evl, M.bind_ap, rdP, strictP, asR, rdWs, rdW, dprim, dfn, ofO, absI]
theorem bgP_run {ν : List (Option W)} : ev c bgP ν η = .ok (.d (.int (10 ^ 18))) η := by
  simp [ev, evl, M.bind_ap, rdP, strictP, asR, rdWs, rdW, dprim, dbin, ofO]
theorem bgT_run {w0 w1 : Option W} {i : Int} : ev c (.pr (.cmp .ge) (.cons bgA (.cons bgP .nil))) [w0, w1, some (.d (.int i))] η = .ok (.d (.bl (decide ((10 : Int) ^ 18 ≤ absI i)))) η := by
  simp [ev, evl, M.bind_ap, rdP, strictP, asR, rdWs, rdW, dprim, dfn, dbin, dcmp, ofO, absI] <;> rfl
theorem bgS_run {w0 w1 : Option W} {i : Int} : ev c (.pr (.bin .sub) (.cons bgA (.cons bgP .nil))) [w0, w1, some (.d (.int i))] η = .ok (.d (.int (absI i - 10 ^ 18))) η := by
  simp [ev, evl, M.bind_ap, rdP, strictP, asR, rdWs, rdW, dprim, dfn, dbin, dcmp, ofO, absI]
theorem intsW_map (ls : List Int) : (ls.map D.int).map W.d = intsW ls := by simp [intsW]
theorem bgL_run {ns : List Int} {w1 w2 : Option W} (hl : ns.length ≤ 63) : ev c bgL [some (.d (.lst (ns.map D.int))), w1, w2] η = .ok (.ref η.length) (η ++ [.lst (intsW (lgs ns))]) := by
  have hs : snap .plain [.d (.lst (ns.map D.int))] η = some (.ds [.lst (ns.map D.int)]) := by simp [snap, rdWs, rdW]
  have e : loopM .plain [.d (.lst (ns.map D.int))] (.ds [.lst (ns.map D.int)]) (fun x => noX (match bindP (.var 2) x (wipeV [some (.d (.lst (ns.map D.int))), w1, w2] [2]) with
      | some ν' => evg c (.gif (.pr (.cmp .ge) (.cons bgA (.cons bgP .nil))) (.yld (.pr (.bin .sub) (.cons bgA (.cons bgP .nil))))) ν'
      | none => M.bad)) (intsW ns) η = .ok ((intsW ns).flatMap fun x => match x with
        | .d (.int i) => if (10 : Int) ^ 18 ≤ absI i then [D.int (absI i - 10 ^ 18)] else []
        | _ => []) η := by
    refine loopM_pure hs _ fun x hx => ?_
    obtain ⟨i, _, rfl⟩ := List.mem_map.mp hx
    have t1 := bgT_run (c := c) (η := η) (w0 := some (.d (.lst (ns.map D.int)))) (w1 := w1) (i := i)
    have t2 := bgS_run (c := c) (η := η) (w0 := some (.d (.lst (ns.map D.int)))) (w1 := w1) (i := i)
    show noX (evg c _ [some (.d (.lst (ns.map D.int))), w1, some (.d (.int i))]) η = _
    by_cases h : (10 : Int) ^ 18 ≤ absI i
    · simp only [decide_eq_true h] at t1
      simp only [noX, evg, M.bind_ap, t1, t2, asB, M.pure_ap, if_pos h, if_true]
    · simp only [decide_eq_false h] at t1
      simp only [noX, evg, M.bind_ap, t1, t2, asB, M.pure_ap, if_neg h, if_false, Bool.false_eq_true]
  have el : ((intsW ns).flatMap fun x => match x with
        | .d (.int i) => if (10 : Int) ^ 18 ≤ absI i then [D.int (absI i - 10 ^ 18)] else []
        | _ => []) = (lgs ns).map D.int := by
    clear e hs hl
    induction ns with
    | nil => rfl
    | cons i ns ih =>
      unfold lgs intsW at ih ⊢
      by_cases h : (10 : Int) ^ 18 ≤ absI i
      · simp only [List.map_cons, List.flatMap_cons, List.filter_cons, h, decide_true, if_true, List.map_cons, ih, List.cons_append, List.nil_append]
      · simp only [List.map_cons, List.flatMap_cons, List.filter_cons, h, decide_false, if_false, ih, List.nil_append, Bool.false_eq_true]
  rw [el] at e
  have h63 : (lgs ns).length ≤ 63 := by
    unfold lgs
    rw [List.length_map]
    exact Nat.le_trans (List.length_filter_le ..) hl
  have hlim : ((lgs ns).map D.int).length ≤ lim := by
    rw [List.length_map]
    unfold lim; omega
  have ei : itS .plain (.ds [.lst (ns.map D.int)]) = some (intsW ns) := by simp [itS, itD, intsW]
  have e1 : evl c (.cons (.var 0) .nil) [some (.d (.lst (ns.map D.int))), w1, w2] η = .ok [.d (.lst (ns.map D.int))] η := by simp [evl, ev, M.bind_ap]
  show (do
    let ws ← evl c (.cons (.var 0) .nil) [some (.d (.lst (ns.map D.int))), w1, w2]
    let sn ← snapM .plain ws
    let its ← ofO (itS .plain sn)
    let ys ← loopM .plain ws sn _ its
    mkL true ys : M W) η = _
  refine (M.bind_ok e1).trans ?_
  refine (M.bind_ok (a := .ds [.lst (ns.map D.int)]) (h' := η) (by unfold snapM; rw [hs])).trans ?_
  refine (M.bind_ok (a := intsW ns) (h' := η) (by rw [ei]; rfl)).trans ?_
  refine (M.bind_ok e).trans ?_
  unfold mkL
  rw [if_pos hlim, if_pos rfl, intsW_map]
theorem bgC_run {ns : List Int} {w1 w2 : Option W} (hl : ns.length ≤ 63) : ev c bgC [some (.d (.lst (ns.map D.int))), w1, w2] η = .ok (.ref η.length) (η ++ [.lst (intsW (ns.map absI))]) := by
  have hs : snap .plain [.d (.lst (ns.map D.int))] η = some (.ds [.lst (ns.map D.int)]) := by simp [snap, rdWs, rdW]
  have e : loopM .plain [.d (.lst (ns.map D.int))] (.ds [.lst (ns.map D.int)]) (fun x => noX (match bindP (.var 2) x (wipeV [some (.d (.lst (ns.map D.int))), w1, w2] [2]) with
      | some ν' => evg c (.yld bgA) ν'
      | none => M.bad)) (intsW ns) η = .ok ((intsW ns).flatMap fun x => match x with
        | .d (.int i) => [D.int (absI i)]
        | _ => []) η := by
    refine loopM_pure hs _ fun x hx => ?_
    obtain ⟨i, _, rfl⟩ := List.mem_map.mp hx
    have ea := bgA_run (c := c) (η := η) (w0 := some (.d (.lst (ns.map D.int)))) (w1 := w1) (i := i)
    show noX (evg c _ [some (.d (.lst (ns.map D.int))), w1, some (.d (.int i))]) η = _
    simp only [noX, evg, M.bind_ap, ea, M.pure_ap]
  have el : ((intsW ns).flatMap fun x => match x with
        | .d (.int i) => [D.int (absI i)]
        | _ => []) = (ns.map absI).map D.int := by
    clear e hs hl
    induction ns with
    | nil => rfl
    | cons i ns ih =>
      unfold intsW at ih ⊢
      simp only [List.map_cons, List.flatMap_cons, ih, List.cons_append, List.nil_append]
  rw [el] at e
  have hlim : ((ns.map absI).map D.int).length ≤ lim := by
    rw [List.length_map, List.length_map]
    unfold lim; omega
  have ei : itS .plain (.ds [.lst (ns.map D.int)]) = some (intsW ns) := by simp [itS, itD, intsW]
  have e1 : evl c (.cons (.var 0) .nil) [some (.d (.lst (ns.map D.int))), w1, w2] η = .ok [.d (.lst (ns.map D.int))] η := by simp [evl, ev, M.bind_ap]
  show (do
    let ws ← evl c (.cons (.var 0) .nil) [some (.d (.lst (ns.map D.int))), w1, w2]
    let sn ← snapM .plain ws
    let its ← ofO (itS .plain sn)
    let ys ← loopM .plain ws sn _ its
    mkL true ys : M W) η = _
  refine (M.bind_ok e1).trans ?_
  refine (M.bind_ok (a := .ds [.lst (ns.map D.int)]) (h' := η) (by unfold snapM; rw [hs])).trans ?_
  refine (M.bind_ok (a := intsW ns) (h' := η) (by rw [ei]; rfl)).trans ?_
  refine (M.bind_ok e).trans ?_
  unfold mkL
  rw [if_pos hlim, if_pos rfl, intsW_map]
/-- _law_begun -/
theorem begun_run {ns : List Int} (hl : ns.length ≤ 63) : ∃ η', runF c dBegun [.d (.lst (ns.map D.int))] [] = .ok (.ref 2) η' ∧ DrawAt η' 2 0 1 (lgs ns) (ns.map absI) 0 0 ∧ (lgs ns).length ≤ 63 := by
  refine ⟨[.lst (intsW (lgs ns)), .lst (intsW (ns.map absI)), .dct (drawD 0 1 0 0)], runF_ret ?_, ⟨rfl, rfl, rfl, by decide⟩, ?_⟩
  · have s1 : sx c (.asg 1 bgL) [some (.d (.lst (ns.map D.int))), none, none] [] = .nx [some (.d (.lst (ns.map D.int))), some (.ref 0), none] [.lst (intsW (lgs ns))] := by
      show O.ofE _ (ev c bgL _ _) _ = _
      rw [bgL_run hl]
      rfl
    have e2 := bgC_run (c := c) (η := [.lst (intsW (lgs ns))]) (w1 := some (.ref 0)) (w2 := none) hl
    have hp : pairsW [.d kL, .ref 0, .d kC, .ref 1, .d kR, .d (.int 0), .d kT, .d (.int 0)] = some (drawD 0 1 0 0) := by kernel_rfl
    have hn : ndupK (drawD 0 1 0 0) = true := by kernel_rfl
    have hq : ev c (.ndct (.cons (.cst (.str [108, 97, 114, 103, 101])) (.cons (.var 1) (.cons (.cst (.str [99, 101, 108, 108, 115])) (.cons bgC (.cons (.cst (.str [114, 101, 115, 116])) (.cons (.cst (.int 0)) (.cons (.cst (.str [116, 117, 114, 110])) (.cons (.cst (.int 0)) .nil))))))))) [some (.d (.lst (ns.map D.int))), some (.ref 0), none] [.lst (intsW (lgs ns))] = .ok (.ref 2) [.lst (intsW (lgs ns)), .lst (intsW (ns.map absI)), .dct (drawD 0 1 0 0)] := by
      show (do
        let ws ← evl c (.cons (.cst kL) (.cons (.var 1) (.cons (.cst kC) (.cons bgC (.cons (.cst kR) (.cons (.cst (.int 0)) (.cons (.cst kT) (.cons (.cst (.int 0)) .nil)))))))) [some (.d (.lst (ns.map D.int))), some (.ref 0), none]
        mkD ws : M W) _ = _
      have e3 : evl c (.cons (.cst kL) (.cons (.var 1) (.cons (.cst kC) (.cons bgC (.cons (.cst kR) (.cons (.cst (.int 0)) (.cons (.cst kT) (.cons (.cst (.int 0)) .nil)))))))) [some (.d (.lst (ns.map D.int))), some (.ref 0), none] [.lst (intsW (lgs ns))] = .ok [.d kL, .ref 0, .d kC, .ref 1, .d kR, .d (.int 0), .d kT, .d (.int 0)] [.lst (intsW (lgs ns)), .lst (intsW (ns.map absI))] := by
        exact evl_cons (by rfl) (evl_cons (by rfl) (evl_cons (by rfl) (evl_cons e2 (evl_cons (by rfl) (evl_cons (by rfl) (evl_cons (by rfl) (evl_cons (by rfl) (by rfl))))))))
      refine (M.bind_ok e3).trans ?_
      unfold mkD
      rw [hp]
      show (if ndupK (drawD 0 1 0 0) && decide (4 ≤ 15) then _ else _) = _
      rw [hn]
      rfl
    show sx c smBegun [some (.d (.lst (ns.map D.int))), none, none] [] = _
    unfold smBegun
    rw [sx_sq s1]
    show (match O.ofE _ (ev c _ _ _) _ with
      | .nx ν' h' => _
      | o => o) = _
    rw [hq]
    rfl
  · unfold lgs
    rw [List.length_map]
    exact Nat.le_trans (List.length_filter_le ..) hl
/-! ### single steps -/
theorem evPr {p : Pr} {es : Ex} {ν : List (Option W)} {η η' : Hv} {ws : List W} {ds : List D} {z : D} (h : evl c es ν η = .ok ws η') (h2 : rdP p ws η' = .ok ds η') (h3 : dprim c.sub p ds = some z) : ev c (.pr p es) ν η = .ok (.d z) η' := by
  have e : ev c (.pr p es) ν = (evl c es ν >>= fun ws => rdP p ws >>= fun ds => ofO (dprim c.sub p ds) >>= fun z => Pure.pure (.d z)) := by simp only [ev]
  rw [e, M.bind_ok h, M.bind_ok h2, h3]
  rfl
theorem evCall {md f : Nat} {es : Ex} {ν : List (Option W)} {η η' : Hv} {ws : List W} {r : R W} (h : evl c es ν η = .ok ws η') (h2 : c.call md f ws η' = r) : ev c (.call md f es) ν η = r := by
  have e : ev c (.call md f es) ν = (evl c es ν >>= fun ws => c.call md f ws) := by simp only [ev]
  rw [e, M.bind_ok h, h2]
theorem sxAsg {i : Nat} {e : Ex} {ν : List (Option W)} {η η' : Hv} {w : W} (h : ev c e ν η = .ok w η') : sx c (.asg i e) ν η = .nx (ν.set i (some w)) η' := by
  show O.ofE ν (ev c e ν η) _ = _
  rw [h]
  rfl
theorem sxRet {e : Ex} {ν : List (Option W)} {η η' : Hv} {w : W} (h : ev c e ν η = .ok w η') : sx c (.ret e) ν η = .ret w η' := by
  show O.ofE ν (ev c e ν η) _ = _
  rw [h]
  rfl
theorem sxIfF {t : Ex} {a b : Sm} {ν : List (Option W)} {η η' : Hv} (h : ev c t ν η = .ok (.d (.bl false)) η') : sx c (.ife t a b) ν η = sx c b ν η' := by
  show O.ofE ν (ev c t ν η) _ = _
  rw [h]
  rfl
theorem sxIfT {t : Ex} {a b : Sm} {ν : List (Option W)} {η η' : Hv} (h : ev c t ν η = .ok (.d (.bl true)) η') : sx c (.ife t a b) ν η = sx c a ν η' := by
  show O.ofE ν (ev c t ν η) _ = _
  rw [h]
  rfl
end
end Ip

set_option Elab.async false
set_option linter.all false
set_option maxRecDepth 100000
set_option maxHeartbeats 0
namespace Law
open PySem PySem.Spec PyProof.Rows L2 Ip
abbrev sub := subA anc
def st_0 : Stmt := stm 70
def sm_0 : Sm := (.sq (.asg 1 (.lc true [2] .plain (.var 2) (.cons (.var 0) .nil) (.gif (.pr (.cmp .ge) (.cons (.pr (.fn .abs) (.cons (.var 2) .nil)) (.cons (.pr (.bin .pow) (.cons (.cst (.int 10)) (.cons (.cst (.int 18)) .nil))) .nil))) (.yld (.pr (.bin .sub) (.cons (.pr (.fn .abs) (.cons (.var 2) .nil)) (.cons (.pr (.bin .pow) (.cons (.cst (.int 10)) (.cons (.cst (.int 18)) .nil))) .nil)))))))
 (.sq (.ret (.ndct (.cons (.cst (.str [108, 97, 114, 103, 101])) (.cons (.var 1) (.cons (.cst (.str [99, 101, 108, 108, 115])) (.cons (.lc true [2] .plain (.var 2) (.cons (.var 0) .nil) (.yld (.pr (.fn .abs) (.cons (.var 2) .nil)))) (.cons (.cst (.str [114, 101, 115, 116])) (.cons (.cst (.int 0)) (.cons (.cst (.str [116, 117, 114, 110])) (.cons (.cst (.int 0)) .nil))))))))))
 .sk))
def d_0 : FDef := ⟨"_law_begun", ["script"], ["script", "large", "cell"], sm_0, none⟩
theorem ck_0 : chkD B d_0 st_0 = true := by decide +kernel
theorem bd_0 (K : PySem.W.Frag) (f : Addr) (fd : FuncData) (F : FunD K d_0.x d_0.x (defArgs st_0) (defBody st_0) (defScope st_0) [] [] f fd) : BindD B 0 d_0 K fd := ⟨F.bindsN fun _ _ _ _ _ _ us hl => match us, hl with | [_], _ => by kernel_rfl, fun ks pm h => by cases h⟩
def st_1 : Stmt := stm 71
def sm_1 : Sm := (.sq (.par [1, 2] (.cons (.pr (.bin .add) (.cons (.dget (.var 0) (.cst (.str [116, 117, 114, 110]))) (.cons (.cst (.int 1)) .nil))) (.cons (.cst (.int 0)) .nil)))
 (.sq (.dset (.var 0) (.cst (.str [116, 117, 114, 110])) (.var 1))
 (.sq (.forr .plain (.var 3) (.cons (.pr .lst (.cons (.cst (.int 2147483629)) (.cons (.cst (.int 2147483587)) (.cons (.cst (.int 2147483579)) .nil)))) .nil)
 (.sq (.asg 4 (.pr (.bin .mod) (.cons (.pr (.fn .int) (.cons (.pr (.bin .add) (.cons (.pr (.bin .mul) (.cons (.var 1) (.cons (.cst (.int 69621)) .nil))) (.cons (.pr (.bin .fdiv) (.cons (.var 3) (.cons (.cst (.int 7)) .nil))) .nil))) .nil)) (.cons (.var 3) .nil))))
 (.sq (.forr .plain (.var 5) (.cons (.dget (.var 0) (.cst (.str [99, 101, 108, 108, 115]))) .nil)
 (.sq (.asg 4 (.pr (.bin .mod) (.cons (.pr (.fn .int) (.cons (.pr (.bin .add) (.cons (.pr (.bin .add) (.cons (.pr (.bin .mul) (.cons (.var 4) (.cons (.cst (.int 48271)) .nil))) (.cons (.pr (.fn .int) (.cons (.var 5) .nil)) .nil))) (.cons (.cst (.int 1)) .nil))) .nil)) (.cons (.var 3) .nil))))
 .sk))
 (.sq (.asg 2 (.pr (.bin .add) (.cons (.pr (.bin .mul) (.cons (.var 2) (.cons (.cst (.int 2147483647)) .nil))) (.cons (.pr (.bin .mod) (.cons (.pr (.fn .int) (.cons (.pr (.bin .pow) (.cons (.var 4) (.cons (.cst (.int 5)) .nil))) .nil)) (.cons (.var 3) .nil))) .nil))))
 .sk))))
 (.sq (.ret (.var 2))
 .sk))))
def d_1 : FDef := ⟨"_law_blend", ["draw"], ["draw", "turn", "found", "prime", "stirred", "cell"], sm_1, none⟩
theorem ck_1 : chkD B d_1 st_1 = true := by decide +kernel
theorem bd_1 (K : PySem.W.Frag) (f : Addr) (fd : FuncData) (F : FunD K d_1.x d_1.x (defArgs st_1) (defBody st_1) (defScope st_1) [] [] f fd) : BindD B 1 d_1 K fd := ⟨F.bindsN fun _ _ _ _ _ _ us hl => match us, hl with | [_], _ => by kernel_rfl, fun ks pm h => by cases h⟩
def st_2 : Stmt := stm 72
def sm_2 : Sm := (.sq (.whl (.and (.pr (.cmp .eq) (.cons (.dget (.var 0) (.cst (.str [114, 101, 115, 116]))) (.cons (.cst (.int 0)) .nil))) (.pr (.cmp .ne) (.cons (.dget (.var 0) (.cst (.str [108, 97, 114, 103, 101]))) (.cons (.pr .lst .nil) .nil))))
 (.sq (.dset (.var 0) (.cst (.str [114, 101, 115, 116])) (.popi (.dget (.var 0) (.cst (.str [108, 97, 114, 103, 101]))) (.cst (.int 0))))
 .sk))
 (.sq (.ife (.pr (.cmp .eq) (.cons (.dget (.var 0) (.cst (.str [114, 101, 115, 116]))) (.cons (.cst (.int 0)) .nil)))
 (.sq (.dset (.var 0) (.cst (.str [114, 101, 115, 116])) (.call 1 1 (.cons (.var 0) .nil)))
 .sk)
 .sk)
 (.sq (.asg 2 (.pr (.bin .mod) (.cons (.pr (.fn .int) (.cons (.dget (.var 0) (.cst (.str [114, 101, 115, 116]))) .nil)) (.cons (.var 1) .nil))))
 (.sq (.dset (.var 0) (.cst (.str [114, 101, 115, 116])) (.pr (.bin .fdiv) (.cons (.pr (.fn .int) (.cons (.dget (.var 0) (.cst (.str [114, 101, 115, 116]))) .nil)) (.cons (.var 1) .nil))))
 (.sq (.ret (.var 2))
 .sk)))))
def d_2 : FDef := ⟨"_law_take", ["draw", "size"], ["draw", "size", "found"], sm_2, none⟩
theorem ck_2 : chkD B d_2 st_2 = true := by decide +kernel
theorem bd_2 (K : PySem.W.Frag) (f : Addr) (fd : FuncData) (F : FunD K d_2.x d_2.x (defArgs st_2) (defBody st_2) (defScope st_2) [] [] f fd) : BindD B 2 d_2 K fd := ⟨F.bindsN fun _ _ _ _ _ _ us hl => match us, hl with | [_, _], _ => by kernel_rfl, fun ks pm h => by cases h⟩
def st_3 : Stmt := stm 73
def sm_3 : Sm := (.sq (.ret (.pr .item (.cons (.var 1) (.cons (.call 1 2 (.cons (.var 0) (.cons (.pr (.fn .len) (.cons (.var 1) .nil)) .nil))) .nil))))
 .sk)
def d_3 : FDef := ⟨"_law_pick", ["draw", "some"], ["draw", "some"], sm_3, none⟩
theorem ck_3 : chkD B d_3 st_3 = true := by decide +kernel
theorem bd_3 (K : PySem.W.Frag) (f : Addr) (fd : FuncData) (F : FunD K d_3.x d_3.x (defArgs st_3) (defBody st_3) (defScope st_3) [] [] f fd) : BindD B 3 d_3 K fd := ⟨F.bindsN fun _ _ _ _ _ _ us hl => match us, hl with | [_, _], _ => by kernel_rfl, fun ks pm h => by cases h⟩
def st_4 : Stmt := stm 74
def sm_4 : Sm := (.sq (.asg 1 (.pr .lst .nil))
 (.sq (.asg 1 (.pr (.bin .add) (.cons (.var 1) (.cons (.pr .lst (.cons (.pr (.fn .isinst) (.cons (.var 0) (.cons (.cst (.glo 2)) .nil))) (.cons (.pr (.fn .isinst) (.cons (.var 0) (.cons (.cst (.glo 3)) .nil))) (.cons (.pr (.fn .isinst) (.cons (.var 0) (.cons (.cst (.glo 4)) .nil))) .nil)))) .nil))))
 (.sq (.asg 1 (.pr (.bin .add) (.cons (.var 1) (.cons (.pr .lst (.cons (.pr (.fn .isinst) (.cons (.var 0) (.cons (.cst (.glo 5)) .nil))) (.cons (.pr (.fn .isinst) (.cons (.var 0) (.cons (.cst (.glo 6)) .nil))) (.cons (.pr (.fn .isinst) (.cons (.var 0) (.cons (.cst (.glo 7)) .nil))) .nil)))) .nil))))
 (.sq (.asg 1 (.pr (.bin .add) (.cons (.var 1) (.cons (.pr .lst (.cons (.pr (.fn .isinst) (.cons (.var 0) (.cons (.cst (.glo 8)) .nil))) (.cons (.pr (.fn .isinst) (.cons (.var 0) (.cons (.cst (.glo 9)) .nil))) (.cons (.pr (.fn .isinst) (.cons (.var 0) (.cons (.cst (.glo 10)) .nil))) .nil)))) .nil))))
 (.sq (.asg 1 (.pr (.bin .add) (.cons (.var 1) (.cons (.pr .lst (.cons (.pr (.fn .isinst) (.cons (.var 0) (.cons (.cst (.glo 11)) .nil))) (.cons (.pr (.fn .isinst) (.cons (.var 0) (.cons (.cst (.glo 12)) .nil))) (.cons (.pr (.fn .isinst) (.cons (.var 0) (.cons (.cst (.glo 13)) .nil))) .nil)))) .nil))))
 (.sq (.asg 1 (.pr (.bin .add) (.cons (.var 1) (.cons (.pr .lst (.cons (.pr (.fn .isinst) (.cons (.var 0) (.cons (.cst (.glo 14)) .nil))) (.cons (.pr (.fn .isinst) (.cons (.var 0) (.cons (.cst (.glo 15)) .nil))) (.cons (.pr (.fn .isinst) (.cons (.var 0) (.cons (.cst (.glo 16)) .nil))) .nil)))) .nil))))
 (.sq (.asg 1 (.pr (.bin .add) (.cons (.var 1) (.cons (.pr .lst (.cons (.pr (.fn .isinst) (.cons (.var 0) (.cons (.cst (.glo 17)) .nil))) (.cons (.pr (.fn .isinst) (.cons (.var 0) (.cons (.cst (.glo 18)) .nil))) (.cons (.pr (.fn .isinst) (.cons (.var 0) (.cons (.cst (.glo 19)) .nil))) .nil)))) .nil))))
 (.sq (.asg 1 (.pr (.bin .add) (.cons (.var 1) (.cons (.pr .lst (.cons (.pr (.fn .isinst) (.cons (.var 0) (.cons (.cst (.glo 20)) .nil))) (.cons (.pr (.fn .isinst) (.cons (.var 0) (.cons (.cst (.glo 21)) .nil))) (.cons (.pr (.fn .isinst) (.cons (.var 0) (.cons (.cst (.glo 22)) .nil))) .nil)))) .nil))))
 (.sq (.asg 1 (.pr (.bin .add) (.cons (.var 1) (.cons (.pr .lst (.cons (.pr (.fn .isinst) (.cons (.var 0) (.cons (.cst (.glo 23)) .nil))) (.cons (.pr (.fn .isinst) (.cons (.var 0) (.cons (.cst (.glo 24)) .nil))) (.cons (.pr (.fn .isinst) (.cons (.var 0) (.cons (.cst (.glo 25)) .nil))) .nil)))) .nil))))
 (.sq (.asg 1 (.pr (.bin .add) (.cons (.var 1) (.cons (.pr .lst (.cons (.pr (.fn .isinst) (.cons (.var 0) (.cons (.cst (.glo 26)) .nil))) (.cons (.pr (.fn .isinst) (.cons (.var 0) (.cons (.cst (.glo 28)) .nil))) (.cons (.pr (.fn .isinst) (.cons (.var 0) (.cons (.cst (.glo 29)) .nil))) .nil)))) .nil))))
 (.sq (.asg 1 (.pr (.bin .add) (.cons (.var 1) (.cons (.pr .lst (.cons (.pr (.fn .isinst) (.cons (.var 0) (.cons (.cst (.glo 30)) .nil))) (.cons (.pr (.fn .isinst) (.cons (.var 0) (.cons (.cst (.glo 31)) .nil))) (.cons (.pr (.fn .isinst) (.cons (.var 0) (.cons (.cst (.glo 32)) .nil))) .nil)))) .nil))))
 (.sq (.asg 1 (.pr (.bin .add) (.cons (.var 1) (.cons (.pr .lst (.cons (.pr (.fn .isinst) (.cons (.var 0) (.cons (.cst (.glo 33)) .nil))) (.cons (.pr (.fn .isinst) (.cons (.var 0) (.cons (.cst (.glo 34)) .nil))) (.cons (.pr (.fn .isinst) (.cons (.var 0) (.cons (.cst (.glo 35)) .nil))) .nil)))) .nil))))
 (.sq (.asg 1 (.pr (.bin .add) (.cons (.var 1) (.cons (.pr .lst (.cons (.pr (.fn .isinst) (.cons (.var 0) (.cons (.cst (.glo 36)) .nil))) (.cons (.pr (.fn .isinst) (.cons (.var 0) (.cons (.cst (.glo 37)) .nil))) (.cons (.pr (.fn .isinst) (.cons (.var 0) (.cons (.cst (.glo 38)) .nil))) .nil)))) .nil))))
 (.sq (.asg 1 (.pr (.bin .add) (.cons (.var 1) (.cons (.pr .lst (.cons (.pr (.fn .isinst) (.cons (.var 0) (.cons (.cst (.glo 40)) .nil))) (.cons (.pr (.fn .isinst) (.cons (.var 0) (.cons (.cst (.glo 41)) .nil))) (.cons (.pr (.fn .isinst) (.cons (.var 0) (.cons (.cst (.glo 42)) .nil))) .nil)))) .nil))))
 (.sq (.asg 1 (.pr (.bin .add) (.cons (.var 1) (.cons (.pr .lst (.cons (.pr (.fn .isinst) (.cons (.var 0) (.cons (.cst (.glo 44)) .nil))) (.cons (.pr (.fn .isinst) (.cons (.var 0) (.cons (.cst (.glo 45)) .nil))) (.cons (.pr (.fn .isinst) (.cons (.var 0) (.cons (.cst (.glo 46)) .nil))) .nil)))) .nil))))
 (.sq (.asg 1 (.pr (.bin .add) (.cons (.var 1) (.cons (.pr .lst (.cons (.pr (.fn .isinst) (.cons (.var 0) (.cons (.cst (.glo 47)) .nil))) (.cons (.pr (.fn .isinst) (.cons (.var 0) (.cons (.cst (.glo 48)) .nil))) (.cons (.pr (.fn .isinst) (.cons (.var 0) (.cons (.cst (.glo 49)) .nil))) .nil)))) .nil))))
 (.sq (.asg 1 (.pr (.bin .add) (.cons (.var 1) (.cons (.pr .lst (.cons (.pr (.fn .isinst) (.cons (.var 0) (.cons (.cst (.glo 51)) .nil))) (.cons (.pr (.fn .isinst) (.cons (.var 0) (.cons (.cst (.glo 52)) .nil))) (.cons (.pr (.fn .isinst) (.cons (.var 0) (.cons (.cst (.glo 53)) .nil))) .nil)))) .nil))))
 (.sq (.asg 1 (.pr (.bin .add) (.cons (.var 1) (.cons (.pr .lst (.cons (.pr (.fn .isinst) (.cons (.var 0) (.cons (.cst (.glo 54)) .nil))) (.cons (.pr (.fn .isinst) (.cons (.var 0) (.cons (.cst (.glo 55)) .nil))) (.cons (.pr (.fn .isinst) (.cons (.var 0) (.cons (.cst (.glo 56)) .nil))) .nil)))) .nil))))
 (.sq (.asg 1 (.pr (.bin .add) (.cons (.var 1) (.cons (.pr .lst (.cons (.pr (.fn .isinst) (.cons (.var 0) (.cons (.cst (.glo 57)) .nil))) (.cons (.pr (.fn .isinst) (.cons (.var 0) (.cons (.cst (.glo 58)) .nil))) (.cons (.pr (.fn .isinst) (.cons (.var 0) (.cons (.cst (.glo 59)) .nil))) .nil)))) .nil))))
 (.sq (.asg 1 (.pr (.bin .add) (.cons (.var 1) (.cons (.pr .lst (.cons (.pr (.fn .isinst) (.cons (.var 0) (.cons (.cst (.glo 60)) .nil))) (.cons (.pr (.fn .isinst) (.cons (.var 0) (.cons (.cst (.glo 61)) .nil))) (.cons (.pr (.fn .isinst) (.cons (.var 0) (.cons (.cst (.glo 62)) .nil))) .nil)))) .nil))))
 (.sq (.asg 1 (.pr (.bin .add) (.cons (.var 1) (.cons (.pr .lst (.cons (.pr (.fn .isinst) (.cons (.var 0) (.cons (.cst (.glo 63)) .nil))) (.cons (.pr (.fn .isinst) (.cons (.var 0) (.cons (.cst (.glo 64)) .nil))) (.cons (.pr (.fn .isinst) (.cons (.var 0) (.cons (.cst (.glo 65)) .nil))) .nil)))) .nil))))
 (.sq (.asg 1 (.pr (.bin .add) (.cons (.var 1) (.cons (.pr .lst (.cons (.pr (.fn .isinst) (.cons (.var 0) (.cons (.cst (.glo 1)) .nil))) (.cons (.pr (.fn .isinst) (.cons (.var 0) (.cons (.cst (.glo 27)) .nil))) (.cons (.pr (.fn .isinst) (.cons (.var 0) (.cons (.cst (.glo 39)) .nil))) .nil)))) .nil))))
 (.sq (.asg 1 (.pr (.bin .add) (.cons (.var 1) (.cons (.pr .lst (.cons (.pr (.fn .isinst) (.cons (.var 0) (.cons (.cst (.glo 43)) .nil))) (.cons (.pr (.fn .isinst) (.cons (.var 0) (.cons (.cst (.glo 50)) .nil))) (.cons (.pr (.fn .isinst) (.cons (.var 0) (.cons (.cst (.glo 66)) .nil))) .nil)))) .nil))))
 (.sq (.asg 1 (.pr (.bin .add) (.cons (.var 1) (.cons (.pr .lst (.cons (.pr (.fn .isinst) (.cons (.var 0) (.cons (.cst (.glo 67)) .nil))) .nil)) .nil))))
 (.sq (.ret (.var 1))
 .sk)))))))))))))))))))))))))
def d_4 : FDef := ⟨"_law_kinds", ["error"], ["error", "found"], sm_4, none⟩
theorem ck_4 : chkD B d_4 st_4 = true := by decide +kernel
theorem bd_4 (K : PySem.W.Frag) (f : Addr) (fd : FuncData) (F : FunD K d_4.x d_4.x (defArgs st_4) (defBody st_4) (defScope st_4) [] [] f fd) : BindD B 4 d_4 K fd := ⟨F.bindsN fun _ _ _ _ _ _ us hl => match us, hl with | [_], _ => by kernel_rfl, fun ks pm h => by cases h⟩
def st_5 : Stmt := stm 75
def sm_5 : Sm := (.sq (.asg 1 (.pr .lst .nil))
 (.sq (.asg 1 (.pr (.bin .add) (.cons (.var 1) (.cons (.pr .lst (.cons (.mk 2 (.cons (.var 0) .nil)) (.cons (.mk 3 (.cons (.var 0) .nil)) (.cons (.mk 4 (.cons (.var 0) .nil)) (.cons (.mk 5 (.cons (.var 0) .nil)) .nil))))) .nil))))
 (.sq (.asg 1 (.pr (.bin .add) (.cons (.var 1) (.cons (.pr .lst (.cons (.mk 6 (.cons (.var 0) .nil)) (.cons (.mk 7 (.cons (.var 0) .nil)) (.cons (.mk 8 (.cons (.var 0) .nil)) (.cons (.mk 9 (.cons (.var 0) .nil)) .nil))))) .nil))))
 (.sq (.asg 1 (.pr (.bin .add) (.cons (.var 1) (.cons (.pr .lst (.cons (.mk 10 (.cons (.var 0) .nil)) (.cons (.mk 11 (.cons (.var 0) .nil)) (.cons (.mk 12 (.cons (.var 0) .nil)) (.cons (.mk 13 (.cons (.var 0) .nil)) .nil))))) .nil))))
 (.sq (.asg 1 (.pr (.bin .add) (.cons (.var 1) (.cons (.pr .lst (.cons (.mk 14 (.cons (.var 0) .nil)) (.cons (.mk 15 (.cons (.var 0) .nil)) (.cons (.mk 16 (.cons (.var 0) .nil)) (.cons (.mk 17 (.cons (.var 0) .nil)) .nil))))) .nil))))
 (.sq (.asg 1 (.pr (.bin .add) (.cons (.var 1) (.cons (.pr .lst (.cons (.mk 18 (.cons (.var 0) .nil)) (.cons (.mk 19 (.cons (.var 0) .nil)) (.cons (.mk 20 (.cons (.var 0) .nil)) (.cons (.mk 21 (.cons (.var 0) .nil)) .nil))))) .nil))))
 (.sq (.asg 1 (.pr (.bin .add) (.cons (.var 1) (.cons (.pr .lst (.cons (.mk 22 (.cons (.var 0) .nil)) (.cons (.mk 23 (.cons (.var 0) .nil)) (.cons (.mk 24 (.cons (.var 0) .nil)) (.cons (.mk 25 (.cons (.var 0) .nil)) .nil))))) .nil))))
 (.sq (.asg 1 (.pr (.bin .add) (.cons (.var 1) (.cons (.pr .lst (.cons (.mk 26 (.cons (.var 0) .nil)) (.cons (.mk 28 (.cons (.var 0) .nil)) (.cons (.mk 29 (.cons (.var 0) .nil)) (.cons (.mk 30 (.cons (.var 0) .nil)) .nil))))) .nil))))
 (.sq (.asg 1 (.pr (.bin .add) (.cons (.var 1) (.cons (.pr .lst (.cons (.mk 31 (.cons (.var 0) .nil)) (.cons (.mk 32 (.cons (.var 0) .nil)) (.cons (.mk 33 (.cons (.var 0) .nil)) (.cons (.mk 34 (.cons (.var 0) .nil)) .nil))))) .nil))))
 (.sq (.asg 1 (.pr (.bin .add) (.cons (.var 1) (.cons (.pr .lst (.cons (.mk 35 (.cons (.var 0) .nil)) (.cons (.mk 36 (.cons (.var 0) .nil)) (.cons (.mk 37 (.cons (.var 0) .nil)) (.cons (.mk 38 (.cons (.var 0) .nil)) .nil))))) .nil))))
 (.sq (.asg 1 (.pr (.bin .add) (.cons (.var 1) (.cons (.pr .lst (.cons (.mk 40 (.cons (.var 0) .nil)) (.cons (.mk 41 (.cons (.var 0) .nil)) (.cons (.mk 42 (.cons (.var 0) .nil)) (.cons (.mk 44 (.cons (.var 0) .nil)) .nil))))) .nil))))
 (.sq (.asg 1 (.pr (.bin .add) (.cons (.var 1) (.cons (.pr .lst (.cons (.mk 45 (.cons (.var 0) .nil)) (.cons (.mk 46 (.cons (.var 0) .nil)) (.cons (.mk 47 (.cons (.var 0) .nil)) (.cons (.mk 48 (.cons (.var 0) .nil)) .nil))))) .nil))))
 (.sq (.asg 1 (.pr (.bin .add) (.cons (.var 1) (.cons (.pr .lst (.cons (.mk 49 (.cons (.var 0) .nil)) (.cons (.mk 51 (.cons (.var 0) .nil)) (.cons (.mk 52 (.cons (.var 0) .nil)) (.cons (.mk 53 (.cons (.var 0) .nil)) .nil))))) .nil))))
 (.sq (.asg 1 (.pr (.bin .add) (.cons (.var 1) (.cons (.pr .lst (.cons (.mk 54 (.cons (.var 0) .nil)) (.cons (.mk 55 (.cons (.var 0) .nil)) (.cons (.mk 56 (.cons (.var 0) .nil)) (.cons (.mk 57 (.cons (.var 0) .nil)) .nil))))) .nil))))
 (.sq (.asg 1 (.pr (.bin .add) (.cons (.var 1) (.cons (.pr .lst (.cons (.mk 58 (.cons (.var 0) .nil)) (.cons (.mk 59 (.cons (.var 0) .nil)) (.cons (.mk 60 (.cons (.var 0) .nil)) (.cons (.mk 61 (.cons (.var 0) .nil)) .nil))))) .nil))))
 (.sq (.asg 1 (.pr (.bin .add) (.cons (.var 1) (.cons (.pr .lst (.cons (.mk 62 (.cons (.var 0) .nil)) (.cons (.mk 63 (.cons (.var 0) .nil)) (.cons (.mk 64 (.cons (.var 0) .nil)) (.cons (.mk 65 (.cons (.var 0) .nil)) .nil))))) .nil))))
 (.sq (.ret (.var 1))
 .sk)))))))))))))))))
def d_5 : FDef := ⟨"_law_plain_errors", ["words"], ["words", "found"], sm_5, none⟩
theorem ck_5 : chkD B d_5 st_5 = true := by decide +kernel
theorem bd_5 (K : PySem.W.Frag) (f : Addr) (fd : FuncData) (F : FunD K d_5.x d_5.x (defArgs st_5) (defBody st_5) (defScope st_5) [] [] f fd) : BindD B 5 d_5 K fd := ⟨F.bindsN fun _ _ _ _ _ _ us hl => match us, hl with | [_], _ => by kernel_rfl, fun ks pm h => by cases h⟩
def st_6 : Stmt := stm 76
def sm_6 : Sm := (.sq (.asg 1 (.nlst .nil))
 (.sq (.exp (.app (.var 1) (.pr .tup (.cons (.mk 1 (.cons (.var 0) .nil)) (.cons (.mkk 1 (.var 0)) (.cons (.pr (.attr "corner") (.cons (.mk 1 (.cons (.var 0) .nil)) .nil)) (.cons (.pr (.attr "corner") (.cons (.mkk 1 (.var 0)) .nil)) .nil)))))))
 (.sq (.exp (.app (.var 1) (.pr .tup (.cons (.mk 27 (.cons (.var 0) .nil)) (.cons (.mkk 27 (.var 0)) (.cons (.pr (.attr "corner") (.cons (.mk 27 (.cons (.var 0) .nil)) .nil)) (.cons (.pr (.attr "corner") (.cons (.mkk 27 (.var 0)) .nil)) .nil)))))))
 (.sq (.exp (.app (.var 1) (.pr .tup (.cons (.mk 39 (.cons (.var 0) .nil)) (.cons (.mkk 39 (.var 0)) (.cons (.pr (.attr "at") (.cons (.mk 39 (.cons (.var 0) .nil)) .nil)) (.cons (.pr (.attr "at") (.cons (.mkk 39 (.var 0)) .nil)) .nil)))))))
 (.sq (.exp (.app (.var 1) (.pr .tup (.cons (.mk 43 (.cons (.var 0) .nil)) (.cons (.mkk 43 (.var 0)) (.cons (.pr (.attr "hand") (.cons (.mk 43 (.cons (.var 0) .nil)) .nil)) (.cons (.pr (.attr "hand") (.cons (.mkk 43 (.var 0)) .nil)) .nil)))))))
 (.sq (.exp (.app (.var 1) (.pr .tup (.cons (.mk 50 (.cons (.var 0) .nil)) (.cons (.mkk 50 (.var 0)) (.cons (.pr (.attr "line") (.cons (.mk 50 (.cons (.var 0) .nil)) .nil)) (.cons (.pr (.attr "line") (.cons (.mkk 50 (.var 0)) .nil)) .nil)))))))
 (.sq (.exp (.app (.var 1) (.pr .tup (.cons (.mk 66 (.cons (.var 0) .nil)) (.cons (.mkk 66 (.var 0)) (.cons (.pr (.attr "most") (.cons (.mk 66 (.cons (.var 0) .nil)) .nil)) (.cons (.pr (.attr "most") (.cons (.mkk 66 (.var 0)) .nil)) .nil)))))))
 (.sq (.exp (.app (.var 1) (.pr .tup (.cons (.mk 67 (.cons (.var 0) .nil)) (.cons (.mkk 67 (.var 0)) (.cons (.pr (.attr "paper") (.cons (.mk 67 (.cons (.var 0) .nil)) .nil)) (.cons (.pr (.attr "paper") (.cons (.mkk 67 (.var 0)) .nil)) .nil)))))))
 (.sq (.ret (.frz (.var 1)))
 .sk)))))))))
def d_6 : FDef := ⟨"_law_told_errors", ["thing"], ["thing", "found"], sm_6, none⟩
theorem ck_6 : chkD B d_6 st_6 = true := by decide +kernel
theorem bd_6 (K : PySem.W.Frag) (f : Addr) (fd : FuncData) (F : FunD K d_6.x d_6.x (defArgs st_6) (defBody st_6) (defScope st_6) [] [] f fd) : BindD B 6 d_6 K fd := ⟨F.bindsN fun _ _ _ _ _ _ us hl => match us, hl with | [_], _ => by kernel_rfl, fun ks pm h => by cases h⟩
def st_7 : Stmt := stm 77
def sm_7 : Sm := (.sq (.asg 1 (.pr .lst (.cons (.cst .non) (.cons (.cst (.bl false)) (.cons (.cst (.bl true)) (.cons (.pr .neg (.cons (.cst (.int 5)) .nil)) (.cons (.pr (.bin .pow) (.cons (.cst (.int 10)) (.cons (.cst (.int 30)) .nil))) (.cons (.cst (.str [])) (.cons (.cst (.str [116, 119, 111, 32, 119, 111, 114, 100, 115])) (.cons (.pr .lst .nil) (.cons (.pr .lst (.cons (.pr .tup (.cons (.cst (.int 1)) (.cons (.cst (.int 2)) .nil))) .nil)) (.cons (.pr .tup .nil) (.cons (.pr .tup (.cons (.cst (.int 4)) .nil)) (.cons (.frz (.ndct .nil)) (.cons (.frz (.ndct (.cons (.cst (.str [97])) (.cons (.pr .tup (.cons (.cst (.int 1)) .nil)) .nil)))) (.cons (.pr .lst (.cons (.pr .lst (.cons (.cst .non) .nil)) .nil)) .nil))))))))))))))))
 (.sq (.ret (.call 1 3 (.cons (.var 0) (.cons (.var 1) .nil))))
 .sk))
def d_7 : FDef := ⟨"_law_any", ["draw"], ["draw", "some"], sm_7, none⟩
theorem ck_7 : chkD B d_7 st_7 = true := by decide +kernel
theorem bd_7 (K : PySem.W.Frag) (f : Addr) (fd : FuncData) (F : FunD K d_7.x d_7.x (defArgs st_7) (defBody st_7) (defScope st_7) [] [] f fd) : BindD B 7 d_7 K fd := ⟨F.bindsN fun _ _ _ _ _ _ us hl => match us, hl with | [_], _ => by kernel_rfl, fun ks pm h => by cases h⟩
def st_8 : Stmt := stm 78
def sm_8 : Sm := (.sq (.asg 1 (.call 1 0 (.cons (.var 0) .nil)))
 (.sq (.par [2, 3] (.cons (.call 1 3 (.cons (.var 1) (.cons (.pr .lst (.cons (.cst (.str [])) (.cons (.cst (.str [119])) (.cons (.cst (.str [110, 111, 116, 104, 105, 110, 103, 32, 111, 102, 32, 116, 104, 101, 32, 107, 105, 110, 100])) .nil)))) .nil))) (.cons (.call 1 7 (.cons (.var 1) .nil)) .nil)))
 (.sq (.asg 4 (.call 0 6 (.cons (.var 3) .nil)))
 (.sq (.ife (.pr (.cmp .ne) (.cons (.lc false [10] .plain (.var 10) (.cons (.var 4) .nil) (.gif (.pr (.cmp .ne) (.cons (.pr (.fn .repr) (.cons (.pr .lst (.cons (.pr .item (.cons (.var 10) (.cons (.cst (.int 2)) .nil))) (.cons (.pr .item (.cons (.var 10) (.cons (.cst (.int 3)) .nil))) .nil))) .nil)) (.cons (.pr (.fn .repr) (.cons (.pr .lst (.cons (.var 3) (.cons (.var 3) .nil))) .nil)) .nil))) (.yld (.cst (.int 1))))) (.cons (.pr .lst .nil) .nil)))
 (.sq (.ret (.cst (.bl false)))
 .sk)
 .sk)
 (.sq (.forr .range (.var 5) (.cons (.cst (.int 2)) .nil)
 (.sq (.asg 6 (.pr (.bin .add) (.cons (.call 0 5 (.cons (.var 2) .nil)) (.cons (.lc false [10] .plain (.var 10) (.cons (.var 4) .nil) (.yld (.pr .item (.cons (.var 10) (.cons (.var 5) .nil))))) .nil))))
 (.sq (.forr .enum (.pair (.var 7) (.var 8)) (.cons (.var 6) .nil)
 (.sq (.ife (.pr (.cmp .ne) (.cons (.call 0 4 (.cons (.var 8) .nil)) (.cons (.lc false [11] .range (.var 11) (.cons (.pr (.fn .len) (.cons (.var 6) .nil)) .nil) (.yld (.pr (.cmp .eq) (.cons (.var 11) (.cons (.var 7) .nil))))) .nil)))
 (.sq (.ret (.cst (.bl false)))
 .sk)
 .sk)
 (.sq (.ife (.or (.nt (.pr (.fn .isinst) (.cons (.var 8) (.cons (.cst (.glo 0)) .nil)))) (.nt (.pr (.fn .isinst) (.cons (.var 8) (.cons (.cst (.ty "ValueError")) .nil)))))
 (.sq (.ret (.cst (.bl false)))
 .sk)
 .sk)
 .sk)))
 .sk)))
 (.sq (.asg 9 (.mk 0 (.cons (.cst (.str [119])) .nil)))
 (.sq (.ret (.and (.pr (.cmp .notin) (.cons (.cst (.bl true)) (.cons (.call 0 4 (.cons (.var 9) .nil)) .nil))) (.pr (.fn .isinst) (.cons (.var 9) (.cons (.cst (.ty "ValueError")) .nil)))))
 .sk)))))))
def d_8 : FDef := ⟨"law", ["script"], ["script", "draw", "words", "thing", "told", "turn", "found", "spot", "error", "base", "item", "k"], sm_8, none⟩
theorem ck_8 : chkD B d_8 st_8 = true := by decide +kernel
theorem bd_8 (K : PySem.W.Frag) (f : Addr) (fd : FuncData) (F : FunD K d_8.x d_8.x (defArgs st_8) (defBody st_8) (defScope st_8) [] [] f fd) : BindD B 8 d_8 K fd := ⟨F.bindsN fun _ _ _ _ _ _ us hl => match us, hl with | [_], _ => by kernel_rfl, fun ks pm h => by cases h⟩
def ds : List FDef := [d_0, d_1, d_2, d_3, d_4, d_5, d_6, d_7, d_8]
theorem chk (K : PySem.W.Frag) : Chk B ds sts K := by
  refine ⟨by kernel_rfl, fun i d h => ?_, fun x q h => by cases h⟩
  match i, h with
  | 0, h => cases h; exact ⟨st_0, List.mem_of_getElem? (i := 0) rfl, ck_0, bd_0 K⟩
  | 1, h => cases h; exact ⟨st_1, List.mem_of_getElem? (i := 1) rfl, ck_1, bd_1 K⟩
  | 2, h => cases h; exact ⟨st_2, List.mem_of_getElem? (i := 2) rfl, ck_2, bd_2 K⟩
  | 3, h => cases h; exact ⟨st_3, List.mem_of_getElem? (i := 3) rfl, ck_3, bd_3 K⟩
  | 4, h => cases h; exact ⟨st_4, List.mem_of_getElem? (i := 4) rfl, ck_4, bd_4 K⟩
  | 5, h => cases h; exact ⟨st_5, List.mem_of_getElem? (i := 5) rfl, ck_5, bd_5 K⟩
  | 6, h => cases h; exact ⟨st_6, List.mem_of_getElem? (i := 6) rfl, ck_6, bd_6 K⟩
  | 7, h => cases h; exact ⟨st_7, List.mem_of_getElem? (i := 7) rfl, ck_7, bd_7 K⟩
  | 8, h => cases h; exact ⟨st_8, List.mem_of_getElem? (i := 8) rfl, ck_8, bd_8 K⟩
  | n + 9, h => cases h
abbrev cN (n : Nat) : Cfg := cfgN ds sub xi 100 n
end Law

set_option Elab.async false
set_option linter.all false
set_option maxRecDepth 100000
set_option maxHeartbeats 0
namespace Law
open PySem PySem.Spec PyProof.Rows L2 Ip
section
variable {c : Cfg} {η : Hv}
theorem lc_data {vs : List Nat} {i : Nat} {pt : Pt} {r : Ex} {xs : List D} {ν : List (Option W)} {g : D → List D} (hv : ν[i]? = some (some (.d (.lst xs))))
    (hb : ∀ x ∈ xs, noX (match bindP pt (.d x) (wipeV ν vs) with
      | some ν' => evg c r ν'
      | none => M.bad) η = .ok (g x) η) (hl : (xs.flatMap g).length ≤ lim) : ev c (.lc false vs .plain pt (.cons (.var i) .nil) r) ν η = .ok (.d (.lst (xs.flatMap g))) η := by
  have hs : snap .plain [.d (.lst xs)] η = some (.ds [.lst xs]) := by simp [snap, rdWs, rdW]
  have e : loopM .plain [.d (.lst xs)] (.ds [.lst xs]) (fun x => noX (match bindP pt x (wipeV ν vs) with
      | some ν' => evg c r ν'
      | none => M.bad)) (xs.map W.d) η = .ok ((xs.map W.d).flatMap fun w => match w with
        | .d x => g x
        | _ => []) η := by
    refine loopM_pure hs _ fun w hw => ?_
    obtain ⟨x, hx, rfl⟩ := List.mem_map.mp hw
    exact hb x hx
  have el : ((xs.map W.d).flatMap fun w => match w with
        | .d x => g x
        | _ => []) = xs.flatMap g := by
    rw [List.flatMap_map]
  rw [el] at e
  have e1 : evl c (.cons (.var i) .nil) ν η = .ok [.d (.lst xs)] η := by simp [evl, ev, M.bind_ap, hv]
  have ei : itS .plain (.ds [.lst xs]) = some (xs.map W.d) := by simp [itS, itD]
  show (do
    let ws ← evl c (.cons (.var i) .nil) ν
    let sn ← snapM .plain ws
    let its ← ofO (itS .plain sn)
    let ys ← loopM .plain ws sn _ its
    mkL false ys : M W) η = _
  refine (M.bind_ok e1).trans ?_
  refine (M.bind_ok (a := .ds [.lst xs]) (h' := η) (by unfold snapM; rw [hs])).trans ?_
  refine (M.bind_ok (a := xs.map W.d) (h' := η) (by rw [ei]; rfl)).trans ?_
  refine (M.bind_ok e).trans ?_
  unfold mkL
  rw [if_pos hl]
  rfl
theorem loopS_all {P : List (Option W) → Prop} {k : Ik} {ws : List W} {sn : Snap} {f : W → List (Option W) → Hv → O} (hs : snap k ws η = some sn) : ∀ (its : List W), (∀ x ∈ its, ∀ ν, P ν → ∃ ν', f x ν η = .nx ν' η ∧ P ν') → ∀ ν, P ν → ∃ ν', loopS k ws sn f its ν η = .nx ν' η ∧ P ν'
  | [], _, ν, h => ⟨ν, by simp [loopS, hs], h⟩
  | x :: xs, hf, ν, h => by
    obtain ⟨ν1, e1, h1⟩ := hf x (List.mem_cons_self ..) ν h
    obtain ⟨ν2, e2, h2⟩ := loopS_all hs xs (fun y hy => hf y (List.mem_cons_of_mem _ hy)) ν1 h1
    refine ⟨ν2, ?_, h2⟩
    show (if snap k ws η = some sn then _ else _) = _
    rw [if_pos hs, e1]
    exact e2
theorem for_enum {P : List (Option W) → Prop} {i : Nat} {pt : Pt} {b : Sm} {xs : List D} {ν : List (Option W)} (hv : ν[i]? = some (some (.d (.lst xs)))) (hP : P ν)
    (hb : ∀ (k : Nat) (x : D), xs[k]? = some x → ∀ ν, P ν → ∃ ν1 ν2, bindP pt (.d (pairD (.int k) x)) ν = some ν1 ∧ sx c b ν1 η = .nx ν2 η ∧ P ν2) : ∃ ν', sx c (.forr .enum pt (.cons (.var i) .nil) b) ν η = .nx ν' η ∧ P ν' := by
  have hs : snap .enum [.d (.lst xs)] η = some (.ds [.lst xs]) := by simp [snap, rdWs, rdW]
  have e1 : evl c (.cons (.var i) .nil) ν η = .ok [.d (.lst xs)] η := by simp [evl, ev, M.bind_ap, hv]
  obtain ⟨ν', e, h'⟩ := loopS_all (P := P) (f := fun x ν h => match bindP pt x ν with
      | some ν' => sx c b ν' h
      | none => .bad) hs ((xs.mapIdx fun i x => pairD (.int (i : Nat)) x).map W.d) (fun w hw ν hν => by
    obtain ⟨d, hd, rfl⟩ := List.mem_map.mp hw
    obtain ⟨k, hk, rfl⟩ := List.mem_mapIdx.mp hd
    obtain ⟨ν1, ν2, q1, q2, q3⟩ := hb k xs[k] (List.getElem?_eq_getElem hk) ν hν
    refine ⟨ν2, ?_, q3⟩
    simp only [q1]
    exact q2) ν hP
  refine ⟨ν', ?_, h'⟩
  have e3 : (do
      let ws ← evl c (.cons (.var i) .nil) ν
      let sn ← snapM .enum ws
      let its ← ofO (itS .enum sn)
      Pure.pure (ws, sn, its) : M (List W × Snap × List W)) η = .ok ([.d (.lst xs)], .ds [.lst xs], (xs.mapIdx fun i x => pairD (.int (i : Nat)) x).map W.d) η := by
    refine (M.bind_ok e1).trans ?_
    refine (M.bind_ok (a := .ds [.lst xs]) (h' := η) (by unfold snapM; rw [hs])).trans ?_
    exact M.bind_ok (by rfl)
  show O.ofE ν _ _ = _
  refine (congrArg (fun r => O.ofE ν r _) e3).trans ?_
  exact e
theorem DrawAt.app {n l m : Nat} {ls cs : List Int} {r t : Int} {o : Hv} (h : DrawAt η n l m ls cs r t) : DrawAt (η ++ o) n l m ls cs r t := by
  have k : ∀ {i : Nat} {v : VO}, η[i]? = some v → (η ++ o)[i]? = some v := fun {i v} e => by
    rw [List.getElem?_append_left (List.getElem?_eq_some_iff.mp e).1]
    exact e
  exact ⟨k h.d, k h.hl, k h.hm, h.lm⟩
theorem frz_ndct {es : Ex} {ν : List (Option W)} {ws : List W} {kvs : List (D × W)} {ds : List (D × D)} (e : evl c es ν η = .ok ws η) (h1 : pairsW ws = some kvs) (h2 : (ndupK kvs && decide (kvs.length ≤ 15)) = true) (h3 : datP kvs = some ds) : ev c (.frz (.ndct es)) ν η = .ok (.d (.dct ds)) (η ++ [.dead]) := by
  show (do
    let w ← (do
      let ws ← evl c es ν
      mkD ws : M W)
    frzW w : M W) η = _
  refine (M.bind_ok (a := .ref η.length) (h' := η ++ [.dct kvs]) ((M.bind_ok e).trans ?_)).trans ?_
  · unfold mkD
    rw [h1]
    show (if (ndupK kvs && decide (kvs.length ≤ 15)) = true then _ else _) = _
    rw [if_pos h2]
  · unfold frzW
    have : (η ++ [VO.dct kvs])[η.length]? = some (.dct kvs) := by simp
    simp only [this, h3]
    simp
end
/-! ### the law -/
def hdS : Sm → Sm
  | .sq a _ => a
  | x => x
def tlS : Sm → Sm
  | .sq _ b => b
  | x => x
def xs7 : List (Nat × String) := [(1, "corner"), (27, "corner"), (39, "at"), (43, "hand"), (50, "line"), (66, "most"), (67, "paper")]
def toldI (x : D) (p : Nat × String) : D := .tup [.exc p.1 [(p.2, x)], .exc p.1 [(p.2, x)], x, x]
def toldL (x : D) : List D := xs7.map (toldI x)
def plainQ : List Nat := [2, 3, 4, 5, 6, 7, 8, 9, 10, 11, 12, 13, 14, 15, 16, 17, 18, 19, 20, 21, 22, 23, 24, 25, 26, 28, 29, 30, 31, 32, 33, 34, 35, 36, 37, 38, 40, 41, 42, 44, 45, 46, 47, 48, 49, 51, 52, 53, 54, 55, 56, 57, 58, 59, 60, 61, 62, 63, 64, 65]
def plainL : List D := plainQ.map fun q => .exc q []
def foundL (x : D) : List D := plainL ++ xs7.map fun p => .exc p.1 [(p.2, x)]
theorem told_run (x : D) (η : Hv) : (cN 5).call 0 6 [.d x] η = .ok (.d (.lst (toldL x))) η := by kernel_rfl
theorem plain_run (w : D) (η : Hv) : (cN 5).call 0 5 [.d w] η = .ok (.d (.lst plainL)) η := by kernel_rfl
def iL : Sm := tlS (tlS (tlS (tlS sm_8)))
/-- the walk over the turns -/
def sTurn : Sm := hdS iL
def bTurn : Sm := match sTurn with
  | .forr _ _ _ b => b
  | x => x
def sWalk : Sm := hdS (tlS bTurn)
def bWalk : Sm := match sWalk with
  | .forr _ _ _ b => b
  | x => x
abbrev st12 (S r2 w xx tl tn fo k e b i j : Option W) : List (Option W) := [S, r2, w, xx, tl, tn, fo, k, e, b, i, j]
theorem bo_0 (S r2 w xx tl tn b i j : Option W) (x : D) (η : Hv) : sx (cN 5) bWalk (st12 S r2 w xx tl tn (some (.d (.lst (foundL x)))) (some (.d (.int 0))) (some (.d ((foundL x).getD 0 .non))) b i j) η = .nx (st12 S r2 w xx tl tn (some (.d (.lst (foundL x)))) (some (.d (.int 0))) (some (.d ((foundL x).getD 0 .non))) b i j) η := by kernel_rfl
theorem bo_1 (S r2 w xx tl tn b i j : Option W) (x : D) (η : Hv) : sx (cN 5) bWalk (st12 S r2 w xx tl tn (some (.d (.lst (foundL x)))) (some (.d (.int 1))) (some (.d ((foundL x).getD 1 .non))) b i j) η = .nx (st12 S r2 w xx tl tn (some (.d (.lst (foundL x)))) (some (.d (.int 1))) (some (.d ((foundL x).getD 1 .non))) b i j) η := by kernel_rfl
theorem bo_2 (S r2 w xx tl tn b i j : Option W) (x : D) (η : Hv) : sx (cN 5) bWalk (st12 S r2 w xx tl tn (some (.d (.lst (foundL x)))) (some (.d (.int 2))) (some (.d ((foundL x).getD 2 .non))) b i j) η = .nx (st12 S r2 w xx tl tn (some (.d (.lst (foundL x)))) (some (.d (.int 2))) (some (.d ((foundL x).getD 2 .non))) b i j) η := by kernel_rfl
theorem bo_3 (S r2 w xx tl tn b i j : Option W) (x : D) (η : Hv) : sx (cN 5) bWalk (st12 S r2 w xx tl tn (some (.d (.lst (foundL x)))) (some (.d (.int 3))) (some (.d ((foundL x).getD 3 .non))) b i j) η = .nx (st12 S r2 w xx tl tn (some (.d (.lst (foundL x)))) (some (.d (.int 3))) (some (.d ((foundL x).getD 3 .non))) b i j) η := by kernel_rfl
theorem bo_4 (S r2 w xx tl tn b i j : Option W) (x : D) (η : Hv) : sx (cN 5) bWalk (st12 S r2 w xx tl tn (some (.d (.lst (foundL x)))) (some (.d (.int 4))) (some (.d ((foundL x).getD 4 .non))) b i j) η = .nx (st12 S r2 w xx tl tn (some (.d (.lst (foundL x)))) (some (.d (.int 4))) (some (.d ((foundL x).getD 4 .non))) b i j) η := by kernel_rfl
theorem bo_5 (S r2 w xx tl tn b i j : Option W) (x : D) (η : Hv) : sx (cN 5) bWalk (st12 S r2 w xx tl tn (some (.d (.lst (foundL x)))) (some (.d (.int 5))) (some (.d ((foundL x).getD 5 .non))) b i j) η = .nx (st12 S r2 w xx tl tn (some (.d (.lst (foundL x)))) (some (.d (.int 5))) (some (.d ((foundL x).getD 5 .non))) b i j) η := by kernel_rfl
theorem bo_6 (S r2 w xx tl tn b i j : Option W) (x : D) (η : Hv) : sx (cN 5) bWalk (st12 S r2 w xx tl tn (some (.d (.lst (foundL x)))) (some (.d (.int 6))) (some (.d ((foundL x).getD 6 .non))) b i j) η = .nx (st12 S r2 w xx tl tn (some (.d (.lst (foundL x)))) (some (.d (.int 6))) (some (.d ((foundL x).getD 6 .non))) b i j) η := by kernel_rfl
theorem bo_7 (S r2 w xx tl tn b i j : Option W) (x : D) (η : Hv) : sx (cN 5) bWalk (st12 S r2 w xx tl tn (some (.d (.lst (foundL x)))) (some (.d (.int 7))) (some (.d ((foundL x).getD 7 .non))) b i j) η = .nx (st12 S r2 w xx tl tn (some (.d (.lst (foundL x)))) (some (.d (.int 7))) (some (.d ((foundL x).getD 7 .non))) b i j) η := by kernel_rfl
theorem bo_8 (S r2 w xx tl tn b i j : Option W) (x : D) (η : Hv) : sx (cN 5) bWalk (st12 S r2 w xx tl tn (some (.d (.lst (foundL x)))) (some (.d (.int 8))) (some (.d ((foundL x).getD 8 .non))) b i j) η = .nx (st12 S r2 w xx tl tn (some (.d (.lst (foundL x)))) (some (.d (.int 8))) (some (.d ((foundL x).getD 8 .non))) b i j) η := by kernel_rfl
theorem bo_9 (S r2 w xx tl tn b i j : Option W) (x : D) (η : Hv) : sx (cN 5) bWalk (st12 S r2 w xx tl tn (some (.d (.lst (foundL x)))) (some (.d (.int 9))) (some (.d ((foundL x).getD 9 .non))) b i j) η = .nx (st12 S r2 w xx tl tn (some (.d (.lst (foundL x)))) (some (.d (.int 9))) (some (.d ((foundL x).getD 9 .non))) b i j) η := by kernel_rfl
theorem bo_10 (S r2 w xx tl tn b i j : Option W) (x : D) (η : Hv) : sx (cN 5) bWalk (st12 S r2 w xx tl tn (some (.d (.lst (foundL x)))) (some (.d (.int 10))) (some (.d ((foundL x).getD 10 .non))) b i j) η = .nx (st12 S r2 w xx tl tn (some (.d (.lst (foundL x)))) (some (.d (.int 10))) (some (.d ((foundL x).getD 10 .non))) b i j) η := by kernel_rfl
theorem bo_11 (S r2 w xx tl tn b i j : Option W) (x : D) (η : Hv) : sx (cN 5) bWalk (st12 S r2 w xx tl tn (some (.d (.lst (foundL x)))) (some (.d (.int 11))) (some (.d ((foundL x).getD 11 .non))) b i j) η = .nx (st12 S r2 w xx tl tn (some (.d (.lst (foundL x)))) (some (.d (.int 11))) (some (.d ((foundL x).getD 11 .non))) b i j) η := by kernel_rfl
theorem bo_12 (S r2 w xx tl tn b i j : Option W) (x : D) (η : Hv) : sx (cN 5) bWalk (st12 S r2 w xx tl tn (some (.d (.lst (foundL x)))) (some (.d (.int 12))) (some (.d ((foundL x).getD 12 .non))) b i j) η = .nx (st12 S r2 w xx tl tn (some (.d (.lst (foundL x)))) (some (.d (.int 12))) (some (.d ((foundL x).getD 12 .non))) b i j) η := by kernel_rfl
theorem bo_13 (S r2 w xx tl tn b i j : Option W) (x : D) (η : Hv) : sx (cN 5) bWalk (st12 S r2 w xx tl tn (some (.d (.lst (foundL x)))) (some (.d (.int 13))) (some (.d ((foundL x).getD 13 .non))) b i j) η = .nx (st12 S r2 w xx tl tn (some (.d (.lst (foundL x)))) (some (.d (.int 13))) (some (.d ((foundL x).getD 13 .non))) b i j) η := by kernel_rfl
theorem bo_14 (S r2 w xx tl tn b i j : Option W) (x : D) (η : Hv) : sx (cN 5) bWalk (st12 S r2 w xx tl tn (some (.d (.lst (foundL x)))) (some (.d (.int 14))) (some (.d ((foundL x).getD 14 .non))) b i j) η = .nx (st12 S r2 w xx tl tn (some (.d (.lst (foundL x)))) (some (.d (.int 14))) (some (.d ((foundL x).getD 14 .non))) b i j) η := by kernel_rfl
theorem bo_15 (S r2 w xx tl tn b i j : Option W) (x : D) (η : Hv) : sx (cN 5) bWalk (st12 S r2 w xx tl tn (some (.d (.lst (foundL x)))) (some (.d (.int 15))) (some (.d ((foundL x).getD 15 .non))) b i j) η = .nx (st12 S r2 w xx tl tn (some (.d (.lst (foundL x)))) (some (.d (.int 15))) (some (.d ((foundL x).getD 15 .non))) b i j) η := by kernel_rfl
theorem bo_16 (S r2 w xx tl tn b i j : Option W) (x : D) (η : Hv) : sx (cN 5) bWalk (st12 S r2 w xx tl tn (some (.d (.lst (foundL x)))) (some (.d (.int 16))) (some (.d ((foundL x).getD 16 .non))) b i j) η = .nx (st12 S r2 w xx tl tn (some (.d (.lst (foundL x)))) (some (.d (.int 16))) (some (.d ((foundL x).getD 16 .non))) b i j) η := by kernel_rfl
theorem bo_17 (S r2 w xx tl tn b i j : Option W) (x : D) (η : Hv) : sx (cN 5) bWalk (st12 S r2 w xx tl tn (some (.d (.lst (foundL x)))) (some (.d (.int 17))) (some (.d ((foundL x).getD 17 .non))) b i j) η = .nx (st12 S r2 w xx tl tn (some (.d (.lst (foundL x)))) (some (.d (.int 17))) (some (.d ((foundL x).getD 17 .non))) b i j) η := by kernel_rfl
theorem bo_18 (S r2 w xx tl tn b i j : Option W) (x : D) (η : Hv) : sx (cN 5) bWalk (st12 S r2 w xx tl tn (some (.d (.lst (foundL x)))) (some (.d (.int 18))) (some (.d ((foundL x).getD 18 .non))) b i j) η = .nx (st12 S r2 w xx tl tn (some (.d (.lst (foundL x)))) (some (.d (.int 18))) (some (.d ((foundL x).getD 18 .non))) b i j) η := by kernel_rfl
theorem bo_19 (S r2 w xx tl tn b i j : Option W) (x : D) (η : Hv) : sx (cN 5) bWalk (st12 S r2 w xx tl tn (some (.d (.lst (foundL x)))) (some (.d (.int 19))) (some (.d ((foundL x).getD 19 .non))) b i j) η = .nx (st12 S r2 w xx tl tn (some (.d (.lst (foundL x)))) (some (.d (.int 19))) (some (.d ((foundL x).getD 19 .non))) b i j) η := by kernel_rfl
theorem bo_20 (S r2 w xx tl tn b i j : Option W) (x : D) (η : Hv) : sx (cN 5) bWalk (st12 S r2 w xx tl tn (some (.d (.lst (foundL x)))) (some (.d (.int 20))) (some (.d ((foundL x).getD 20 .non))) b i j) η = .nx (st12 S r2 w xx tl tn (some (.d (.lst (foundL x)))) (some (.d (.int 20))) (some (.d ((foundL x).getD 20 .non))) b i j) η := by kernel_rfl
theorem bo_21 (S r2 w xx tl tn b i j : Option W) (x : D) (η : Hv) : sx (cN 5) bWalk (st12 S r2 w xx tl tn (some (.d (.lst (foundL x)))) (some (.d (.int 21))) (some (.d ((foundL x).getD 21 .non))) b i j) η = .nx (st12 S r2 w xx tl tn (some (.d (.lst (foundL x)))) (some (.d (.int 21))) (some (.d ((foundL x).getD 21 .non))) b i j) η := by kernel_rfl
theorem bo_22 (S r2 w xx tl tn b i j : Option W) (x : D) (η : Hv) : sx (cN 5) bWalk (st12 S r2 w xx tl tn (some (.d (.lst (foundL x)))) (some (.d (.int 22))) (some (.d ((foundL x).getD 22 .non))) b i j) η = .nx (st12 S r2 w xx tl tn (some (.d (.lst (foundL x)))) (some (.d (.int 22))) (some (.d ((foundL x).getD 22 .non))) b i j) η := by kernel_rfl
theorem bo_23 (S r2 w xx tl tn b i j : Option W) (x : D) (η : Hv) : sx (cN 5) bWalk (st12 S r2 w xx tl tn (some (.d (.lst (foundL x)))) (some (.d (.int 23))) (some (.d ((foundL x).getD 23 .non))) b i j) η = .nx (st12 S r2 w xx tl tn (some (.d (.lst (foundL x)))) (some (.d (.int 23))) (some (.d ((foundL x).getD 23 .non))) b i j) η := by kernel_rfl
theorem bo_24 (S r2 w xx tl tn b i j : Option W) (x : D) (η : Hv) : sx (cN 5) bWalk (st12 S r2 w xx tl tn (some (.d (.lst (foundL x)))) (some (.d (.int 24))) (some (.d ((foundL x).getD 24 .non))) b i j) η = .nx (st12 S r2 w xx tl tn (some (.d (.lst (foundL x)))) (some (.d (.int 24))) (some (.d ((foundL x).getD 24 .non))) b i j) η := by kernel_rfl
theorem bo_25 (S r2 w xx tl tn b i j : Option W) (x : D) (η : Hv) : sx (cN 5) bWalk (st12 S r2 w xx tl tn (some (.d (.lst (foundL x)))) (some (.d (.int 25))) (some (.d ((foundL x).getD 25 .non))) b i j) η = .nx (st12 S r2 w xx tl tn (some (.d (.lst (foundL x)))) (some (.d (.int 25))) (some (.d ((foundL x).getD 25 .non))) b i j) η := by kernel_rfl
theorem bo_26 (S r2 w xx tl tn b i j : Option W) (x : D) (η : Hv) : sx (cN 5) bWalk (st12 S r2 w xx tl tn (some (.d (.lst (foundL x)))) (some (.d (.int 26))) (some (.d ((foundL x).getD 26 .non))) b i j) η = .nx (st12 S r2 w xx tl tn (some (.d (.lst (foundL x)))) (some (.d (.int 26))) (some (.d ((foundL x).getD 26 .non))) b i j) η := by kernel_rfl
theorem bo_27 (S r2 w xx tl tn b i j : Option W) (x : D) (η : Hv) : sx (cN 5) bWalk (st12 S r2 w xx tl tn (some (.d (.lst (foundL x)))) (some (.d (.int 27))) (some (.d ((foundL x).getD 27 .non))) b i j) η = .nx (st12 S r2 w xx tl tn (some (.d (.lst (foundL x)))) (some (.d (.int 27))) (some (.d ((foundL x).getD 27 .non))) b i j) η := by kernel_rfl
theorem bo_28 (S r2 w xx tl tn b i j : Option W) (x : D) (η : Hv) : sx (cN 5) bWalk (st12 S r2 w xx tl tn (some (.d (.lst (foundL x)))) (some (.d (.int 28))) (some (.d ((foundL x).getD 28 .non))) b i j) η = .nx (st12 S r2 w xx tl tn (some (.d (.lst (foundL x)))) (some (.d (.int 28))) (some (.d ((foundL x).getD 28 .non))) b i j) η := by kernel_rfl
theorem bo_29 (S r2 w xx tl tn b i j : Option W) (x : D) (η : Hv) : sx (cN 5) bWalk (st12 S r2 w xx tl tn (some (.d (.lst (foundL x)))) (some (.d (.int 29))) (some (.d ((foundL x).getD 29 .non))) b i j) η = .nx (st12 S r2 w xx tl tn (some (.d (.lst (foundL x)))) (some (.d (.int 29))) (some (.d ((foundL x).getD 29 .non))) b i j) η := by kernel_rfl
theorem bo_30 (S r2 w xx tl tn b i j : Option W) (x : D) (η : Hv) : sx (cN 5) bWalk (st12 S r2 w xx tl tn (some (.d (.lst (foundL x)))) (some (.d (.int 30))) (some (.d ((foundL x).getD 30 .non))) b i j) η = .nx (st12 S r2 w xx tl tn (some (.d (.lst (foundL x)))) (some (.d (.int 30))) (some (.d ((foundL x).getD 30 .non))) b i j) η := by kernel_rfl
theorem bo_31 (S r2 w xx tl tn b i j : Option W) (x : D) (η : Hv) : sx (cN 5) bWalk (st12 S r2 w xx tl tn (some (.d (.lst (foundL x)))) (some (.d (.int 31))) (some (.d ((foundL x).getD 31 .non))) b i j) η = .nx (st12 S r2 w xx tl tn (some (.d (.lst (foundL x)))) (some (.d (.int 31))) (some (.d ((foundL x).getD 31 .non))) b i j) η := by kernel_rfl
theorem bo_32 (S r2 w xx tl tn b i j : Option W) (x : D) (η : Hv) : sx (cN 5) bWalk (st12 S r2 w xx tl tn (some (.d (.lst (foundL x)))) (some (.d (.int 32))) (some (.d ((foundL x).getD 32 .non))) b i j) η = .nx (st12 S r2 w xx tl tn (some (.d (.lst (foundL x)))) (some (.d (.int 32))) (some (.d ((foundL x).getD 32 .non))) b i j) η := by kernel_rfl
theorem bo_33 (S r2 w xx tl tn b i j : Option W) (x : D) (η : Hv) : sx (cN 5) bWalk (st12 S r2 w xx tl tn (some (.d (.lst (foundL x)))) (some (.d (.int 33))) (some (.d ((foundL x).getD 33 .non))) b i j) η = .nx (st12 S r2 w xx tl tn (some (.d (.lst (foundL x)))) (some (.d (.int 33))) (some (.d ((foundL x).getD 33 .non))) b i j) η := by kernel_rfl
theorem bo_34 (S r2 w xx tl tn b i j : Option W) (x : D) (η : Hv) : sx (cN 5) bWalk (st12 S r2 w xx tl tn (some (.d (.lst (foundL x)))) (some (.d (.int 34))) (some (.d ((foundL x).getD 34 .non))) b i j) η = .nx (st12 S r2 w xx tl tn (some (.d (.lst (foundL x)))) (some (.d (.int 34))) (some (.d ((foundL x).getD 34 .non))) b i j) η := by kernel_rfl
theorem bo_35 (S r2 w xx tl tn b i j : Option W) (x : D) (η : Hv) : sx (cN 5) bWalk (st12 S r2 w xx tl tn (some (.d (.lst (foundL x)))) (some (.d (.int 35))) (some (.d ((foundL x).getD 35 .non))) b i j) η = .nx (st12 S r2 w xx tl tn (some (.d (.lst (foundL x)))) (some (.d (.int 35))) (some (.d ((foundL x).getD 35 .non))) b i j) η := by kernel_rfl
theorem bo_36 (S r2 w xx tl tn b i j : Option W) (x : D) (η : Hv) : sx (cN 5) bWalk (st12 S r2 w xx tl tn (some (.d (.lst (foundL x)))) (some (.d (.int 36))) (some (.d ((foundL x).getD 36 .non))) b i j) η = .nx (st12 S r2 w xx tl tn (some (.d (.lst (foundL x)))) (some (.d (.int 36))) (some (.d ((foundL x).getD 36 .non))) b i j) η := by kernel_rfl
theorem bo_37 (S r2 w xx tl tn b i j : Option W) (x : D) (η : Hv) : sx (cN 5) bWalk (st12 S r2 w xx tl tn (some (.d (.lst (foundL x)))) (some (.d (.int 37))) (some (.d ((foundL x).getD 37 .non))) b i j) η = .nx (st12 S r2 w xx tl tn (some (.d (.lst (foundL x)))) (some (.d (.int 37))) (some (.d ((foundL x).getD 37 .non))) b i j) η := by kernel_rfl
theorem bo_38 (S r2 w xx tl tn b i j : Option W) (x : D) (η : Hv) : sx (cN 5) bWalk (st12 S r2 w xx tl tn (some (.d (.lst (foundL x)))) (some (.d (.int 38))) (some (.d ((foundL x).getD 38 .non))) b i j) η = .nx (st12 S r2 w xx tl tn (some (.d (.lst (foundL x)))) (some (.d (.int 38))) (some (.d ((foundL x).getD 38 .non))) b i j) η := by kernel_rfl
theorem bo_39 (S r2 w xx tl tn b i j : Option W) (x : D) (η : Hv) : sx (cN 5) bWalk (st12 S r2 w xx tl tn (some (.d (.lst (foundL x)))) (some (.d (.int 39))) (some (.d ((foundL x).getD 39 .non))) b i j) η = .nx (st12 S r2 w xx tl tn (some (.d (.lst (foundL x)))) (some (.d (.int 39))) (some (.d ((foundL x).getD 39 .non))) b i j) η := by kernel_rfl
theorem bo_40 (S r2 w xx tl tn b i j : Option W) (x : D) (η : Hv) : sx (cN 5) bWalk (st12 S r2 w xx tl tn (some (.d (.lst (foundL x)))) (some (.d (.int 40))) (some (.d ((foundL x).getD 40 .non))) b i j) η = .nx (st12 S r2 w xx tl tn (some (.d (.lst (foundL x)))) (some (.d (.int 40))) (some (.d ((foundL x).getD 40 .non))) b i j) η := by kernel_rfl
theorem bo_41 (S r2 w xx tl tn b i j : Option W) (x : D) (η : Hv) : sx (cN 5) bWalk (st12 S r2 w xx tl tn (some (.d (.lst (foundL x)))) (some (.d (.int 41))) (some (.d ((foundL x).getD 41 .non))) b i j) η = .nx (st12 S r2 w xx tl tn (some (.d (.lst (foundL x)))) (some (.d (.int 41))) (some (.d ((foundL x).getD 41 .non))) b i j) η := by kernel_rfl
theorem bo_42 (S r2 w xx tl tn b i j : Option W) (x : D) (η : Hv) : sx (cN 5) bWalk (st12 S r2 w xx tl tn (some (.d (.lst (foundL x)))) (some (.d (.int 42))) (some (.d ((foundL x).getD 42 .non))) b i j) η = .nx (st12 S r2 w xx tl tn (some (.d (.lst (foundL x)))) (some (.d (.int 42))) (some (.d ((foundL x).getD 42 .non))) b i j) η := by kernel_rfl
theorem bo_43 (S r2 w xx tl tn b i j : Option W) (x : D) (η : Hv) : sx (cN 5) bWalk (st12 S r2 w xx tl tn (some (.d (.lst (foundL x)))) (some (.d (.int 43))) (some (.d ((foundL x).getD 43 .non))) b i j) η = .nx (st12 S r2 w xx tl tn (some (.d (.lst (foundL x)))) (some (.d (.int 43))) (some (.d ((foundL x).getD 43 .non))) b i j) η := by kernel_rfl
theorem bo_44 (S r2 w xx tl tn b i j : Option W) (x : D) (η : Hv) : sx (cN 5) bWalk (st12 S r2 w xx tl tn (some (.d (.lst (foundL x)))) (some (.d (.int 44))) (some (.d ((foundL x).getD 44 .non))) b i j) η = .nx (st12 S r2 w xx tl tn (some (.d (.lst (foundL x)))) (some (.d (.int 44))) (some (.d ((foundL x).getD 44 .non))) b i j) η := by kernel_rfl
theorem bo_45 (S r2 w xx tl tn b i j : Option W) (x : D) (η : Hv) : sx (cN 5) bWalk (st12 S r2 w xx tl tn (some (.d (.lst (foundL x)))) (some (.d (.int 45))) (some (.d ((foundL x).getD 45 .non))) b i j) η = .nx (st12 S r2 w xx tl tn (some (.d (.lst (foundL x)))) (some (.d (.int 45))) (some (.d ((foundL x).getD 45 .non))) b i j) η := by kernel_rfl
theorem bo_46 (S r2 w xx tl tn b i j : Option W) (x : D) (η : Hv) : sx (cN 5) bWalk (st12 S r2 w xx tl tn (some (.d (.lst (foundL x)))) (some (.d (.int 46))) (some (.d ((foundL x).getD 46 .non))) b i j) η = .nx (st12 S r2 w xx tl tn (some (.d (.lst (foundL x)))) (some (.d (.int 46))) (some (.d ((foundL x).getD 46 .non))) b i j) η := by kernel_rfl
theorem bo_47 (S r2 w xx tl tn b i j : Option W) (x : D) (η : Hv) : sx (cN 5) bWalk (st12 S r2 w xx tl tn (some (.d (.lst (foundL x)))) (some (.d (.int 47))) (some (.d ((foundL x).getD 47 .non))) b i j) η = .nx (st12 S r2 w xx tl tn (some (.d (.lst (foundL x)))) (some (.d (.int 47))) (some (.d ((foundL x).getD 47 .non))) b i j) η := by kernel_rfl
theorem bo_48 (S r2 w xx tl tn b i j : Option W) (x : D) (η : Hv) : sx (cN 5) bWalk (st12 S r2 w xx tl tn (some (.d (.lst (foundL x)))) (some (.d (.int 48))) (some (.d ((foundL x).getD 48 .non))) b i j) η = .nx (st12 S r2 w xx tl tn (some (.d (.lst (foundL x)))) (some (.d (.int 48))) (some (.d ((foundL x).getD 48 .non))) b i j) η := by kernel_rfl
theorem bo_49 (S r2 w xx tl tn b i j : Option W) (x : D) (η : Hv) : sx (cN 5) bWalk (st12 S r2 w xx tl tn (some (.d (.lst (foundL x)))) (some (.d (.int 49))) (some (.d ((foundL x).getD 49 .non))) b i j) η = .nx (st12 S r2 w xx tl tn (some (.d (.lst (foundL x)))) (some (.d (.int 49))) (some (.d ((foundL x).getD 49 .non))) b i j) η := by kernel_rfl
theorem bo_50 (S r2 w xx tl tn b i j : Option W) (x : D) (η : Hv) : sx (cN 5) bWalk (st12 S r2 w xx tl tn (some (.d (.lst (foundL x)))) (some (.d (.int 50))) (some (.d ((foundL x).getD 50 .non))) b i j) η = .nx (st12 S r2 w xx tl tn (some (.d (.lst (foundL x)))) (some (.d (.int 50))) (some (.d ((foundL x).getD 50 .non))) b i j) η := by kernel_rfl
theorem bo_51 (S r2 w xx tl tn b i j : Option W) (x : D) (η : Hv) : sx (cN 5) bWalk (st12 S r2 w xx tl tn (some (.d (.lst (foundL x)))) (some (.d (.int 51))) (some (.d ((foundL x).getD 51 .non))) b i j) η = .nx (st12 S r2 w xx tl tn (some (.d (.lst (foundL x)))) (some (.d (.int 51))) (some (.d ((foundL x).getD 51 .non))) b i j) η := by kernel_rfl
theorem bo_52 (S r2 w xx tl tn b i j : Option W) (x : D) (η : Hv) : sx (cN 5) bWalk (st12 S r2 w xx tl tn (some (.d (.lst (foundL x)))) (some (.d (.int 52))) (some (.d ((foundL x).getD 52 .non))) b i j) η = .nx (st12 S r2 w xx tl tn (some (.d (.lst (foundL x)))) (some (.d (.int 52))) (some (.d ((foundL x).getD 52 .non))) b i j) η := by kernel_rfl
theorem bo_53 (S r2 w xx tl tn b i j : Option W) (x : D) (η : Hv) : sx (cN 5) bWalk (st12 S r2 w xx tl tn (some (.d (.lst (foundL x)))) (some (.d (.int 53))) (some (.d ((foundL x).getD 53 .non))) b i j) η = .nx (st12 S r2 w xx tl tn (some (.d (.lst (foundL x)))) (some (.d (.int 53))) (some (.d ((foundL x).getD 53 .non))) b i j) η := by kernel_rfl
theorem bo_54 (S r2 w xx tl tn b i j : Option W) (x : D) (η : Hv) : sx (cN 5) bWalk (st12 S r2 w xx tl tn (some (.d (.lst (foundL x)))) (some (.d (.int 54))) (some (.d ((foundL x).getD 54 .non))) b i j) η = .nx (st12 S r2 w xx tl tn (some (.d (.lst (foundL x)))) (some (.d (.int 54))) (some (.d ((foundL x).getD 54 .non))) b i j) η := by kernel_rfl
theorem bo_55 (S r2 w xx tl tn b i j : Option W) (x : D) (η : Hv) : sx (cN 5) bWalk (st12 S r2 w xx tl tn (some (.d (.lst (foundL x)))) (some (.d (.int 55))) (some (.d ((foundL x).getD 55 .non))) b i j) η = .nx (st12 S r2 w xx tl tn (some (.d (.lst (foundL x)))) (some (.d (.int 55))) (some (.d ((foundL x).getD 55 .non))) b i j) η := by kernel_rfl
theorem bo_56 (S r2 w xx tl tn b i j : Option W) (x : D) (η : Hv) : sx (cN 5) bWalk (st12 S r2 w xx tl tn (some (.d (.lst (foundL x)))) (some (.d (.int 56))) (some (.d ((foundL x).getD 56 .non))) b i j) η = .nx (st12 S r2 w xx tl tn (some (.d (.lst (foundL x)))) (some (.d (.int 56))) (some (.d ((foundL x).getD 56 .non))) b i j) η := by kernel_rfl
theorem bo_57 (S r2 w xx tl tn b i j : Option W) (x : D) (η : Hv) : sx (cN 5) bWalk (st12 S r2 w xx tl tn (some (.d (.lst (foundL x)))) (some (.d (.int 57))) (some (.d ((foundL x).getD 57 .non))) b i j) η = .nx (st12 S r2 w xx tl tn (some (.d (.lst (foundL x)))) (some (.d (.int 57))) (some (.d ((foundL x).getD 57 .non))) b i j) η := by kernel_rfl
theorem bo_58 (S r2 w xx tl tn b i j : Option W) (x : D) (η : Hv) : sx (cN 5) bWalk (st12 S r2 w xx tl tn (some (.d (.lst (foundL x)))) (some (.d (.int 58))) (some (.d ((foundL x).getD 58 .non))) b i j) η = .nx (st12 S r2 w xx tl tn (some (.d (.lst (foundL x)))) (some (.d (.int 58))) (some (.d ((foundL x).getD 58 .non))) b i j) η := by kernel_rfl
theorem bo_59 (S r2 w xx tl tn b i j : Option W) (x : D) (η : Hv) : sx (cN 5) bWalk (st12 S r2 w xx tl tn (some (.d (.lst (foundL x)))) (some (.d (.int 59))) (some (.d ((foundL x).getD 59 .non))) b i j) η = .nx (st12 S r2 w xx tl tn (some (.d (.lst (foundL x)))) (some (.d (.int 59))) (some (.d ((foundL x).getD 59 .non))) b i j) η := by kernel_rfl
theorem bo_60 (S r2 w xx tl tn b i j : Option W) (x : D) (η : Hv) : sx (cN 5) bWalk (st12 S r2 w xx tl tn (some (.d (.lst (foundL x)))) (some (.d (.int 60))) (some (.d ((foundL x).getD 60 .non))) b i j) η = .nx (st12 S r2 w xx tl tn (some (.d (.lst (foundL x)))) (some (.d (.int 60))) (some (.d ((foundL x).getD 60 .non))) b i j) η := by kernel_rfl
theorem bo_61 (S r2 w xx tl tn b i j : Option W) (x : D) (η : Hv) : sx (cN 5) bWalk (st12 S r2 w xx tl tn (some (.d (.lst (foundL x)))) (some (.d (.int 61))) (some (.d ((foundL x).getD 61 .non))) b i j) η = .nx (st12 S r2 w xx tl tn (some (.d (.lst (foundL x)))) (some (.d (.int 61))) (some (.d ((foundL x).getD 61 .non))) b i j) η := by kernel_rfl
theorem bo_62 (S r2 w xx tl tn b i j : Option W) (x : D) (η : Hv) : sx (cN 5) bWalk (st12 S r2 w xx tl tn (some (.d (.lst (foundL x)))) (some (.d (.int 62))) (some (.d ((foundL x).getD 62 .non))) b i j) η = .nx (st12 S r2 w xx tl tn (some (.d (.lst (foundL x)))) (some (.d (.int 62))) (some (.d ((foundL x).getD 62 .non))) b i j) η := by kernel_rfl
theorem bo_63 (S r2 w xx tl tn b i j : Option W) (x : D) (η : Hv) : sx (cN 5) bWalk (st12 S r2 w xx tl tn (some (.d (.lst (foundL x)))) (some (.d (.int 63))) (some (.d ((foundL x).getD 63 .non))) b i j) η = .nx (st12 S r2 w xx tl tn (some (.d (.lst (foundL x)))) (some (.d (.int 63))) (some (.d ((foundL x).getD 63 .non))) b i j) η := by kernel_rfl
theorem bo_64 (S r2 w xx tl tn b i j : Option W) (x : D) (η : Hv) : sx (cN 5) bWalk (st12 S r2 w xx tl tn (some (.d (.lst (foundL x)))) (some (.d (.int 64))) (some (.d ((foundL x).getD 64 .non))) b i j) η = .nx (st12 S r2 w xx tl tn (some (.d (.lst (foundL x)))) (some (.d (.int 64))) (some (.d ((foundL x).getD 64 .non))) b i j) η := by kernel_rfl
theorem bo_65 (S r2 w xx tl tn b i j : Option W) (x : D) (η : Hv) : sx (cN 5) bWalk (st12 S r2 w xx tl tn (some (.d (.lst (foundL x)))) (some (.d (.int 65))) (some (.d ((foundL x).getD 65 .non))) b i j) η = .nx (st12 S r2 w xx tl tn (some (.d (.lst (foundL x)))) (some (.d (.int 65))) (some (.d ((foundL x).getD 65 .non))) b i j) η := by kernel_rfl
theorem bo_66 (S r2 w xx tl tn b i j : Option W) (x : D) (η : Hv) : sx (cN 5) bWalk (st12 S r2 w xx tl tn (some (.d (.lst (foundL x)))) (some (.d (.int 66))) (some (.d ((foundL x).getD 66 .non))) b i j) η = .nx (st12 S r2 w xx tl tn (some (.d (.lst (foundL x)))) (some (.d (.int 66))) (some (.d ((foundL x).getD 66 .non))) b i j) η := by kernel_rfl
end Law

set_option Elab.async false
set_option linter.all false
set_option maxRecDepth 100000
set_option maxHeartbeats 0
namespace Law
open PySem PySem.Spec PyProof.Rows L2 Ip
section
variable {S r2 w xx tl tn b i j : Option W} {x : D} {η : Hv}
theorem bodies : ∀ (k : Nat) (e : D), (foundL x)[k]? = some e → sx (cN 5) bWalk (st12 S r2 w xx tl tn (some (.d (.lst (foundL x)))) (some (.d (.int k))) (some (.d e)) b i j) η = .nx (st12 S r2 w xx tl tn (some (.d (.lst (foundL x)))) (some (.d (.int k))) (some (.d e)) b i j) η
  | 0, e, h => by cases h; exact bo_0 S r2 w xx tl tn b i j x η
  | 1, e, h => by cases h; exact bo_1 S r2 w xx tl tn b i j x η
  | 2, e, h => by cases h; exact bo_2 S r2 w xx tl tn b i j x η
  | 3, e, h => by cases h; exact bo_3 S r2 w xx tl tn b i j x η
  | 4, e, h => by cases h; exact bo_4 S r2 w xx tl tn b i j x η
  | 5, e, h => by cases h; exact bo_5 S r2 w xx tl tn b i j x η
  | 6, e, h => by cases h; exact bo_6 S r2 w xx tl tn b i j x η
  | 7, e, h => by cases h; exact bo_7 S r2 w xx tl tn b i j x η
  | 8, e, h => by cases h; exact bo_8 S r2 w xx tl tn b i j x η
  | 9, e, h => by cases h; exact bo_9 S r2 w xx tl tn b i j x η
  | 10, e, h => by cases h; exact bo_10 S r2 w xx tl tn b i j x η
  | 11, e, h => by cases h; exact bo_11 S r2 w xx tl tn b i j x η
  | 12, e, h => by cases h; exact bo_12 S r2 w xx tl tn b i j x η
  | 13, e, h => by cases h; exact bo_13 S r2 w xx tl tn b i j x η
  | 14, e, h => by cases h; exact bo_14 S r2 w xx tl tn b i j x η
  | 15, e, h => by cases h; exact bo_15 S r2 w xx tl tn b i j x η
  | 16, e, h => by cases h; exact bo_16 S r2 w xx tl tn b i j x η
  | 17, e, h => by cases h; exact bo_17 S r2 w xx tl tn b i j x η
  | 18, e, h => by cases h; exact bo_18 S r2 w xx tl tn b i j x η
  | 19, e, h => by cases h; exact bo_19 S r2 w xx tl tn b i j x η
  | 20, e, h => by cases h; exact bo_20 S r2 w xx tl tn b i j x η
  | 21, e, h => by cases h; exact bo_21 S r2 w xx tl tn b i j x η
  | 22, e, h => by cases h; exact bo_22 S r2 w xx tl tn b i j x η
  | 23, e, h => by cases h; exact bo_23 S r2 w xx tl tn b i j x η
  | 24, e, h => by cases h; exact bo_24 S r2 w xx tl tn b i j x η
  | 25, e, h => by cases h; exact bo_25 S r2 w xx tl tn b i j x η
  | 26, e, h => by cases h; exact bo_26 S r2 w xx tl tn b i j x η
  | 27, e, h => by cases h; exact bo_27 S r2 w xx tl tn b i j x η
  | 28, e, h => by cases h; exact bo_28 S r2 w xx tl tn b i j x η
  | 29, e, h => by cases h; exact bo_29 S r2 w xx tl tn b i j x η
  | 30, e, h => by cases h; exact bo_30 S r2 w xx tl tn b i j x η
  | 31, e, h => by cases h; exact bo_31 S r2 w xx tl tn b i j x η
  | 32, e, h => by cases h; exact bo_32 S r2 w xx tl tn b i j x η
  | 33, e, h => by cases h; exact bo_33 S r2 w xx tl tn b i j x η
  | 34, e, h => by cases h; exact bo_34 S r2 w xx tl tn b i j x η
  | 35, e, h => by cases h; exact bo_35 S r2 w xx tl tn b i j x η
  | 36, e, h => by cases h; exact bo_36 S r2 w xx tl tn b i j x η
  | 37, e, h => by cases h; exact bo_37 S r2 w xx tl tn b i j x η
  | 38, e, h => by cases h; exact bo_38 S r2 w xx tl tn b i j x η
  | 39, e, h => by cases h; exact bo_39 S r2 w xx tl tn b i j x η
  | 40, e, h => by cases h; exact bo_40 S r2 w xx tl tn b i j x η
  | 41, e, h => by cases h; exact bo_41 S r2 w xx tl tn b i j x η
  | 42, e, h => by cases h; exact bo_42 S r2 w xx tl tn b i j x η
  | 43, e, h => by cases h; exact bo_43 S r2 w xx tl tn b i j x η
  | 44, e, h => by cases h; exact bo_44 S r2 w xx tl tn b i j x η
  | 45, e, h => by cases h; exact bo_45 S r2 w xx tl tn b i j x η
  | 46, e, h => by cases h; exact bo_46 S r2 w xx tl tn b i j x η
  | 47, e, h => by cases h; exact bo_47 S r2 w xx tl tn b i j x η
  | 48, e, h => by cases h; exact bo_48 S r2 w xx tl tn b i j x η
  | 49, e, h => by cases h; exact bo_49 S r2 w xx tl tn b i j x η
  | 50, e, h => by cases h; exact bo_50 S r2 w xx tl tn b i j x η
  | 51, e, h => by cases h; exact bo_51 S r2 w xx tl tn b i j x η
  | 52, e, h => by cases h; exact bo_52 S r2 w xx tl tn b i j x η
  | 53, e, h => by cases h; exact bo_53 S r2 w xx tl tn b i j x η
  | 54, e, h => by cases h; exact bo_54 S r2 w xx tl tn b i j x η
  | 55, e, h => by cases h; exact bo_55 S r2 w xx tl tn b i j x η
  | 56, e, h => by cases h; exact bo_56 S r2 w xx tl tn b i j x η
  | 57, e, h => by cases h; exact bo_57 S r2 w xx tl tn b i j x η
  | 58, e, h => by cases h; exact bo_58 S r2 w xx tl tn b i j x η
  | 59, e, h => by cases h; exact bo_59 S r2 w xx tl tn b i j x η
  | 60, e, h => by cases h; exact bo_60 S r2 w xx tl tn b i j x η
  | 61, e, h => by cases h; exact bo_61 S r2 w xx tl tn b i j x η
  | 62, e, h => by cases h; exact bo_62 S r2 w xx tl tn b i j x η
  | 63, e, h => by cases h; exact bo_63 S r2 w xx tl tn b i j x η
  | 64, e, h => by cases h; exact bo_64 S r2 w xx tl tn b i j x η
  | 65, e, h => by cases h; exact bo_65 S r2 w xx tl tn b i j x η
  | 66, e, h => by cases h; exact bo_66 S r2 w xx tl tn b i j x η
  | k + 67, e, h => by
    have hl : (foundL x).length = 67 := rfl
    have := (List.getElem?_eq_some_iff.mp h).1
    omega
theorem walk_run {a e : Option W} : ∃ a' e', sx (cN 5) sWalk (st12 S r2 w xx tl tn (some (.d (.lst (foundL x)))) a e b i j) η = .nx (st12 S r2 w xx tl tn (some (.d (.lst (foundL x)))) a' e' b i j) η := by
  obtain ⟨ν', h1, a', e', h2⟩ := for_enum (c := cN 5) (η := η) (b := bWalk) (pt := .pair (.var 7) (.var 8)) (i := 6) (xs := foundL x) (ν := st12 S r2 w xx tl tn (some (.d (.lst (foundL x)))) a e b i j)
    (P := fun ν => ∃ a e, ν = st12 S r2 w xx tl tn (some (.d (.lst (foundL x)))) a e b i j) rfl ⟨a, e, rfl⟩ (fun k d hk ν hν => by
      obtain ⟨a, e, rfl⟩ := hν
      exact ⟨_, _, rfl, bodies k d hk, _, _, rfl⟩)
  subst h2
  exact ⟨a', e', h1⟩
def gTold : D → List D
  | .tup (a :: _) => [a]
  | _ => []
theorem item_run {t : Int} (ht : t = 0 ∨ t = 1) {a e f : Option W} {p : Nat × String} {w : Option W} : noX (match bindP (.var 10) (.d (toldI x p)) (wipeV (st12 S r2 w xx tl (some (.d (.int t))) a e f b i j) [10]) with
    | some ν' => evg (cN 5) (.yld (.pr .item (.cons (.var 10) (.cons (.var 5) .nil)))) ν'
    | none => M.bad) η = .ok (gTold (toldI x p)) η := by
  rcases ht with rfl | rfl
  · kernel_rfl
  · kernel_rfl
theorem told_map : (toldL x).flatMap gTold = xs7.map fun p => D.exc p.1 [(p.2, x)] := by kernel_rfl
theorem s6_run {t : Int} (ht : t = 0 ∨ t = 1) {a e f : Option W} {w : D} : sx (cN 5) (hdS bTurn) (st12 S r2 (some (.d w)) xx (some (.d (.lst (toldL x)))) (some (.d (.int t))) a e f b i j) η = .nx (st12 S r2 (some (.d w)) xx (some (.d (.lst (toldL x)))) (some (.d (.int t))) (some (.d (.lst (foundL x)))) e f b i j) η := by
  have h1 : ev (cN 5) (.call 0 5 (.cons (.var 2) .nil)) (st12 S r2 (some (.d w)) xx (some (.d (.lst (toldL x)))) (some (.d (.int t))) a e f b i j) η = .ok (.d (.lst plainL)) η :=
    (M.bind_ok (show evl (cN 5) (.cons (.var 2) .nil) (st12 S r2 (some (.d w)) xx (some (.d (.lst (toldL x)))) (some (.d (.int t))) a e f b i j) η = .ok [.d w] η from rfl)).trans (plain_run w η)
  have h2 : ev (cN 5) (.lc false [10] .plain (.var 10) (.cons (.var 4) .nil) (.yld (.pr .item (.cons (.var 10) (.cons (.var 5) .nil))))) (st12 S r2 (some (.d w)) xx (some (.d (.lst (toldL x)))) (some (.d (.int t))) a e f b i j) η = .ok (.d (.lst (xs7.map fun p => D.exc p.1 [(p.2, x)]))) η := by
    rw [← told_map]
    refine lc_data rfl (fun d hd => ?_) (by rw [told_map]; show 7 ≤ lim; unfold lim; omega)
    obtain ⟨p, _, rfl⟩ := List.mem_map.mp hd
    exact item_run ht
  have h3 := evl_cons h1 (evl_cons h2 (show evl (cN 5) .nil (st12 S r2 (some (.d w)) xx (some (.d (.lst (toldL x)))) (some (.d (.int t))) a e f b i j) η = .ok [] η from rfl))
  have hS : hdS bTurn = .asg 6 (.pr (.bin .add) (.cons (.call 0 5 (.cons (.var 2) .nil)) (.cons (.lc false [10] .plain (.var 10) (.cons (.var 4) .nil) (.yld (.pr .item (.cons (.var 10) (.cons (.var 5) .nil))))) .nil))) := by kernel_rfl
  rw [hS]
  exact sxAsg (evPr (ds := [.lst plainL, .lst (xs7.map fun p => D.exc p.1 [(p.2, x)])]) (z := .lst (foundL x)) h3 (by kernel_rfl) (by kernel_rfl))
theorem turn_run {t : Int} (ht : t = 0 ∨ t = 1) {a e f : Option W} {w : D} : ∃ a' e' f', sx (cN 5) bTurn (st12 S r2 (some (.d w)) xx (some (.d (.lst (toldL x)))) (some (.d (.int t))) a e f b i j) η = .nx (st12 S r2 (some (.d w)) xx (some (.d (.lst (toldL x)))) (some (.d (.int t))) a' e' f' b i j) η := by
  obtain ⟨e', f', h⟩ := walk_run (S := S) (r2 := r2) (w := some (.d w)) (xx := xx) (tl := some (.d (.lst (toldL x)))) (tn := some (.d (.int t))) (b := b) (i := i) (j := j) (x := x) (η := η) (a := e) (e := f)
  refine ⟨some (.d (.lst (foundL x))), e', f', ?_⟩
  show sx (cN 5) (.sq (hdS bTurn) (.sq sWalk .sk)) _ _ = _
  rw [sx_sq (s6_run ht), sx_sq h]
  rfl
theorem turns_run {a e f g : Option W} {w : D} : ∃ g' a' e' f', sx (cN 5) sTurn (st12 S r2 (some (.d w)) xx (some (.d (.lst (toldL x)))) g a e f b i j) η = .nx (st12 S r2 (some (.d w)) xx (some (.d (.lst (toldL x)))) g' a' e' f' b i j) η := by
  obtain ⟨ν', h, g', a', e', f', h2⟩ := loopS_all (η := η) (k := .range) (ws := [.d (.int 2)]) (sn := .ds [.int 2]) (P := fun ν => ∃ g a e f, ν = st12 S r2 (some (.d w)) xx (some (.d (.lst (toldL x)))) g a e f b i j) (f := fun x ν h => match bindP (.var 5) x ν with
      | some ν' => sx (cN 5) bTurn ν' h
      | none => .bad) rfl [.d (.int 0), .d (.int 1)] (fun y hy ν hν => by
    obtain ⟨g, a, e, f, rfl⟩ := hν
    have ht : ∃ t : Int, y = .d (.int t) ∧ (t = 0 ∨ t = 1) := by
      rcases List.mem_cons.mp hy with rfl | hy
      · exact ⟨0, rfl, .inl rfl⟩
      · rcases List.mem_cons.mp hy with rfl | hy
        · exact ⟨1, rfl, .inr rfl⟩
        · cases hy
    obtain ⟨t, rfl, ht⟩ := ht
    obtain ⟨a', e', f', h⟩ := turn_run (S := S) (r2 := r2) (xx := xx) (b := b) (i := i) (j := j) (x := x) (η := η) ht (a := a) (e := e) (f := f) (w := w)
    exact ⟨_, h, _, _, _, _, rfl⟩) _ ⟨g, a, e, f, rfl⟩
  subst h2
  refine ⟨g', a', e', f', ?_⟩
  rw [← h]
  kernel_rfl
theorem last_run {a e f g : Option W} : sx (cN 5) (tlS iL) (st12 S r2 w xx tl g a e f b i j) η = .ret (.d (.bl true)) η := by kernel_rfl
def any14 : List D := [.non, .bl false, .bl true, .int (-5), .int (10 ^ 30), .str [], .str [116, 119, 111, 32, 119, 111, 114, 100, 115], .lst [], .lst [.tup [.int 1, .int 2]], .tup [], .tup [.int 4], .dct [], .dct [(.str [97], .tup [.int 1])], .lst [.lst [.non]]]
def str3 : List D := [.str [], .str [119], .str [110, 111, 116, 104, 105, 110, 103, 32, 111, 102, 32, 116, 104, 101, 32, 107, 105, 110, 100]]
abbrev rpT : Ex := (.pr (.cmp .ne) (.cons (.pr (.fn .repr) (.cons (.pr .lst (.cons (.pr .item (.cons (.var 10) (.cons (.cst (.int 2)) .nil))) (.cons (.pr .item (.cons (.var 10) (.cons (.cst (.int 3)) .nil))) .nil))) .nil)) (.cons (.pr (.fn .repr) (.cons (.pr .lst (.cons (.var 3) (.cons (.var 3) .nil))) .nil)) .nil)))
theorem rep_run {p : Nat × String} {a e f g : Option W} (hx : x ∈ any14) : noX (match bindP (.var 10) (.d (toldI x p)) (wipeV (st12 S r2 w (some (.d x)) tl g a e f b i j) [10]) with
    | some ν' => evg (cN 5) (.gif rpT (.yld (.cst (.int 1)))) ν'
    | none => M.bad) η = .ok [] η := by
  simp only [any14, List.mem_cons, List.not_mem_nil, or_false] at hx
  rcases hx with rfl | rfl | rfl | rfl | rfl | rfl | rfl | rfl | rfl | rfl | rfl | rfl | rfl | rfl <;> kernel_rfl
def sRep : Sm := hdS (tlS (tlS (tlS sm_8)))
theorem s4_run {a e f g : Option W} (hx : x ∈ any14) : sx (cN 5) sRep (st12 S r2 w (some (.d x)) (some (.d (.lst (toldL x)))) g a e f b i j) η = .nx (st12 S r2 w (some (.d x)) (some (.d (.lst (toldL x)))) g a e f b i j) η := by
  have h2 : ev (cN 5) (.lc false [10] .plain (.var 10) (.cons (.var 4) .nil) (.gif rpT (.yld (.cst (.int 1))))) (st12 S r2 w (some (.d x)) (some (.d (.lst (toldL x)))) g a e f b i j) η = .ok (.d (.lst [])) η := by
    have q : (toldL x).flatMap (fun _ => ([] : List D)) = [] := by simp
    rw [← q]
    refine lc_data rfl (fun d hd => ?_) (by rw [q]; exact Nat.zero_le _)
    obtain ⟨p, _, rfl⟩ := List.mem_map.mp hd
    exact rep_run hx
  have h3 := evl_cons h2 (evl_cons (show ev (cN 5) (.pr .lst .nil) (st12 S r2 w (some (.d x)) (some (.d (.lst (toldL x)))) g a e f b i j) η = .ok (.d (.lst [])) η by kernel_rfl) (show evl (cN 5) .nil (st12 S r2 w (some (.d x)) (some (.d (.lst (toldL x)))) g a e f b i j) η = .ok [] η from rfl))
  have hS : sRep = .ife (.pr (.cmp .ne) (.cons (.lc false [10] .plain (.var 10) (.cons (.var 4) .nil) (.gif rpT (.yld (.cst (.int 1))))) (.cons (.pr .lst .nil) .nil))) (.sq (.ret (.cst (.bl false))) .sk) .sk := by kernel_rfl
  rw [hS, sxIfF (evPr (ds := [.lst [], .lst []]) (z := .bl false) h3 (by kernel_rfl) (by kernel_rfl))]
  rfl
end
/-! ### the draws -/
theorem any_run {n l m : Nat} {ls cs : List Int} {r t : Int} {η : Hv} (h : DrawAt η n l m ls cs r t) (hl : ls.length ≤ 63) : ∃ x η', runF (cN 4) d_7 [.ref n] η = .ok (.d x) η' ∧ x ∈ any14 := by
  have c1 : evl (cN 4) (.cons (.cst (.str [97])) (.cons (.pr .tup (.cons (.cst (.int 1)) .nil)) .nil)) [some (.ref n), none] (η ++ [.dead]) = .ok [.d (.str [97]), .d (.tup [.int 1])] (η ++ [.dead]) := by kernel_rfl
  have f1 : ev (cN 4) (.frz (.ndct .nil)) [some (.ref n), none] η = .ok (.d (.dct [])) (η ++ [.dead]) := frz_ndct (ws := []) (kvs := []) rfl rfl (by kernel_rfl) rfl
  have f2 : ev (cN 4) (.frz (.ndct (.cons (.cst (.str [97])) (.cons (.pr .tup (.cons (.cst (.int 1)) .nil)) .nil)))) [some (.ref n), none] (η ++ [.dead]) = .ok (.d (.dct [(.str [97], .tup [.int 1])])) (η ++ [.dead] ++ [.dead]) := frz_ndct (kvs := [(.str [97], .d (.tup [.int 1]))]) c1 (by kernel_rfl) (by kernel_rfl) (by kernel_rfl)
  have k : ∀ (e : Ex) (d : D) (η : Hv), ev (cN 4) e [some (.ref n), none] η = .ok (.d d) η → ∀ r ws η', evl (cN 4) r [some (.ref n), none] η = .ok ws η' → evl (cN 4) (.cons e r) [some (.ref n), none] η = .ok (.d d :: ws) η' := fun e d η h1 r ws η' h2 => evl_cons h1 h2
  let es : Ex := match hdS sm_7 with
    | .asg _ (.pr _ es) => es
    | _ => .nil
  have hes : evl (cN 4) es [some (.ref n), none] η = .ok (any14.map W.d) (η ++ [.dead] ++ [.dead]) :=
    k _ _ _ (by kernel_rfl) _ _ _ (k _ _ _ (by kernel_rfl) _ _ _ (k _ _ _ (by kernel_rfl) _ _ _ (k _ _ _ (by kernel_rfl) _ _ _ (k _ _ _ (by kernel_rfl) _ _ _ (k _ _ _ (by kernel_rfl) _ _ _ (k _ _ _ (by kernel_rfl) _ _ _ (k _ _ _ (by kernel_rfl) _ _ _
      (k _ _ _ (by kernel_rfl) _ _ _ (k _ _ _ (by kernel_rfl) _ _ _ (k _ _ _ (by kernel_rfl) _ _ _ (evl_cons f1 (evl_cons f2 (evl_cons (a := .d (.lst [.lst [.non]])) (by kernel_rfl) (by rfl))))))))))))))
  have s1 : sx (cN 4) (hdS sm_7) [some (.ref n), none] η = .nx [some (.ref n), some (.d (.lst any14))] (η ++ [.dead] ++ [.dead]) := by
    show O.ofE _ ((do
      let ws ← evl (cN 4) es [some (.ref n), none]
      let ds ← rdP .lst ws
      let z ← ofO (dprim (cN 4).sub .lst ds)
      Pure.pure (W.d z) : M W) η) _ = _
    refine (congrArg (fun r => O.ofE _ r _) (M.bind_ok hes)).trans ?_
    kernel_rfl
  have h2 : DrawAt (η ++ [.dead] ++ [.dead]) n l m ls cs r t := DrawAt.app (DrawAt.app h)
  obtain ⟨x, ls', r', t', η', e, hx, h', f', l'⟩ := pick_run (c := cN 3) (iT := 2) (iB := 1) (xs := any14) h2 (by intro z; cases z) (by show 14 < 1073741824; omega) ⟨cN 2, by show ls.length < 100; omega, ⟨cN 1, fun _ _ => rfl⟩, fun _ _ => rfl⟩
  refine ⟨x, η', runF_ret ?_, hx⟩
  show sx (cN 4) (.sq (hdS sm_7) (tlS sm_7)) [some (.ref n), none] η = _
  rw [sx_sq s1]
  have e2 : ev (cN 4) (.call 1 3 (.cons (.var 0) (.cons (.var 1) .nil))) [some (.ref n), some (.d (.lst any14))] (η ++ [.dead] ++ [.dead]) = .ok (.d x) η' := (M.bind_ok (show evl (cN 4) (.cons (.var 0) (.cons (.var 1) .nil)) [some (.ref n), some (.d (.lst any14))] (η ++ [.dead] ++ [.dead]) = .ok [.ref n, .d (.lst any14)] (η ++ [.dead] ++ [.dead]) from rfl)).trans e
  show (match O.ofE _ (ev (cN 4) (.call 1 3 (.cons (.var 0) (.cons (.var 1) .nil))) _ _) _ with
    | .nx ν' h' => _
    | o => o) = _
  rw [e2]
  rfl
theorem law_run (ns : List Int) (hl : ns.length ≤ 63) (_ : ∀ z ∈ ns, Builtin.Int.intBits z ≤ 1048576) : ∃ η', runF (cN 5) d_8 [.d (.lst (ns.map D.int))] [] = .ok (.d (.bl true)) η' := by
  obtain ⟨η1, e1, D1, l1⟩ := begun_run (c := cN 4) hl
  obtain ⟨w, ls2, r2, t2, η2, e2, hw, D2, F2, l2⟩ := pick_run (c := cN 4) (iT := 2) (iB := 1) (xs := str3) D1 (by intro z; cases z) (by show 3 < 1073741824; omega) ⟨cN 3, by show (lgs ns).length < 100; omega, ⟨cN 2, fun _ _ => rfl⟩, fun _ _ => rfl⟩
  obtain ⟨x, η3, e3, hx⟩ := any_run D2 (by omega)
  generalize hS : (some (W.d (.lst (ns.map D.int))) : Option W) = S
  have s1 : sx (cN 5) (hdS sm_8) (st12 S none none none none none none none none none none none) [] = .nx (st12 S (some (.ref 2)) none none none none none none none none none none) η1 := by
    subst hS
    have q : ev (cN 5) (.call 1 0 (.cons (.var 0) .nil)) (st12 (some (W.d (.lst (ns.map D.int)))) none none none none none none none none none none none) [] = .ok (.ref 2) η1 := (M.bind_ok (show evl (cN 5) (.cons (.var 0) .nil) (st12 (some (W.d (.lst (ns.map D.int)))) none none none none none none none none none none none) [] = .ok [W.d (.lst (ns.map D.int))] [] from rfl)).trans e1
    show O.ofE _ (ev (cN 5) (.call 1 0 (.cons (.var 0) .nil)) _ _) _ = _
    rw [q]
    rfl
  have s2 : sx (cN 5) (hdS (tlS sm_8)) (st12 S (some (.ref 2)) none none none none none none none none none none) η1 = .nx (st12 S (some (.ref 2)) (some (.d w)) (some (.d x)) none none none none none none none none) η3 := by
    have q1 : ev (cN 5) (.call 1 3 (.cons (.var 1) (.cons (.pr .lst (.cons (.cst (.str [])) (.cons (.cst (.str [119])) (.cons (.cst (.str [110, 111, 116, 104, 105, 110, 103, 32, 111, 102, 32, 116, 104, 101, 32, 107, 105, 110, 100])) .nil)))) .nil))) (st12 S (some (.ref 2)) none none none none none none none none none none) η1 = .ok (.d w) η2 :=
      (M.bind_ok (show evl (cN 5) _ _ η1 = .ok [.ref 2, .d (.lst str3)] η1 by kernel_rfl)).trans e2
    have q2 : ev (cN 5) (.call 1 7 (.cons (.var 1) .nil)) (st12 S (some (.ref 2)) none none none none none none none none none none) η2 = .ok (.d x) η3 := (M.bind_ok (show evl (cN 5) (.cons (.var 1) .nil) _ η2 = .ok [.ref 2] η2 from rfl)).trans e3
    have q3 := evl_cons q1 (evl_cons q2 (show evl (cN 5) .nil _ η3 = .ok [] η3 from rfl))
    show O.ofE _ (evl (cN 5) _ _ η1) _ = _
    refine (congrArg (fun r => O.ofE _ r _) q3).trans ?_
    rfl
  have s3 : sx (cN 5) (hdS (tlS (tlS sm_8))) (st12 S (some (.ref 2)) (some (.d w)) (some (.d x)) none none none none none none none none) η3 = .nx (st12 S (some (.ref 2)) (some (.d w)) (some (.d x)) (some (.d (.lst (toldL x)))) none none none none none none none) η3 := by
    have q : ev (cN 5) (.call 0 6 (.cons (.var 3) .nil)) (st12 S (some (.ref 2)) (some (.d w)) (some (.d x)) none none none none none none none none) η3 = .ok (.d (.lst (toldL x))) η3 := (M.bind_ok (show evl (cN 5) (.cons (.var 3) .nil) _ η3 = .ok [.d x] η3 from rfl)).trans (told_run x η3)
    show O.ofE _ (ev (cN 5) (.call 0 6 (.cons (.var 3) .nil)) _ _) _ = _
    rw [q]
    rfl
  have s4 := s4_run (S := S) (r2 := some (.ref 2)) (w := some (.d w)) (b := none) (i := none) (j := none) (a := none) (e := none) (f := none) (g := none) (η := η3) hx
  obtain ⟨g', a', e', f', s5⟩ := turns_run (S := S) (r2 := some (.ref 2)) (xx := some (.d x)) (b := none) (i := none) (j := none) (x := x) (η := η3) (a := none) (e := none) (f := none) (g := none) (w := w)
  refine ⟨η3, runF_ret ?_⟩
  show sx (cN 5) sm_8 (st12 (some (W.d (.lst (ns.map D.int)))) none none none none none none none none none none none) [] = _
  rw [hS]
  show sx (cN 5) (.sq (hdS sm_8) (.sq (hdS (tlS sm_8)) (.sq (hdS (tlS (tlS sm_8))) (.sq sRep (.sq sTurn (tlS iL)))))) _ _ = _
  rw [sx_sq s1, sx_sq s2, sx_sq s3, sx_sq s4, sx_sq s5]
  exact last_run
end Law

set_option Elab.async false
set_option linter.all false
set_option maxRecDepth 100000
set_option maxHeartbeats 0
namespace Law
open PySem PySem.W PySem.Calls PyProof.Rows
theorem noX0 (w : World) (H : L2.Hp) (s : Shared) (e : Value) (s' : Shared) (h : L2.CX prog w [] H s (fun _ _ _ => False) e s') : False := by
  obtain ⟨a, B, H', cls, d, _, _, _, _, _, _, _, z⟩ := h
  exact z
end Law
open PySem PySem.W PySem.Calls PyProof.Rows
theorem PySem.Challenge.cw_waitless_k96_errors_of_all_parts_holds : PySem.Challenge.rw_waitless_k96_errors_of_all_parts.Holds := by
  w_on; o_law
  refine HandSHeadRun.head_any (r := OpenLaw.row PySem.Challenge.rw_waitless_k96_errors_of_all_parts) (q := view (OpenLaw.row PySem.Challenge.rw_waitless_k96_errors_of_all_parts).prog [78]) (H := Law.hk) (ob := Law.ob) (M := 20000) (loose := Law.loose) (d := HandSHeadRun.topDef (OpenLaw.row PySem.Challenge.rw_waitless_k96_errors_of_all_parts).prog 78) (kwd := []) Law.ob_eq
    (by kernel_rfl) (fun s => by kernel_rfl) Law.run (by kernel_rfl) (by kernel_rfl) (by kernel_rfl) (by rfl) (by first | assumption | decide +kernel) (by decide +kernel) ⟨rfl, rfl, rfl, rfl, rfl, by decide +kernel⟩ ?hw ?hc
  case hw => w_witness2
  case hc =>
    refine Ip.walk_G (l := PySem.Challenge.rw_waitless_k96_errors_of_all_parts) (n := 63) (k := 7 * (5 + 1)) (x := "script") (CX := fun w => L2.CX Law.prog w) rfl (by decide) (by kernel_rfl) ⟨rfl, by decide, by decide⟩ ?F Law.noX0
    intro w mg fa h Y G hmg0
    have hmg : mg Law.d_8.x = some (.ref fa) := by
      have e : (HandSHeadRun.topDef (OpenLaw.row PySem.Challenge.rw_waitless_k96_errors_of_all_parts).prog 78).name = Law.d_8.x := by kernel_rfl
      rw [← e]
      exact hmg0
    exact Ip.law_F (l := PySem.Challenge.rw_waitless_k96_errors_of_all_parts) (iL := 8) (x := "script") rfl rfl Law.chk (ll := Law.ll) (by rfl) (ex := Law.exB) (fun K h => Bool.and_eq_true_iff.mp h) Law.law_run w mg fa h Y G hmg


