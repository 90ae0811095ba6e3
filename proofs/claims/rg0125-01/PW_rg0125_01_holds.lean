import PyProof.Rows.All
import Wide.All
import OpenK.AllK
import Wide.FinOn
import PyProof.NeData
import KE.KSuper
import PyProof.AttrMissHeap
import KE.KDictOf
import KE.KDictList
import PyProof.CollectIter
import PyProof.Rows.SortShell
import PyProof.FactsAll.set
import PyProof.SetNew
import PyProof.Rows.SetFrom
import PySem.Challenge.RW_rg0125_01
open PySem
set_option Elab.async false
set_option tactic.hygienic false
namespace Mine
inductive V where
 | none
 | bool (b : Bool)
 | int (i : Int)
 | str (x : Str)
 | tup (vs : List V)
 | lst (vs : List V)
 | ref (n : Nat)
 | rng (lo hi : Int)
 deriving Inhabited
inductive O where
 | lst (vs : List V)
 | dict (es : List (V × V))
 | inst (C : Str) (fs : List (Str × V))
 deriving Inhabited
abbrev Loc := List (Str × V)
abbrev Mem := List O
theorem ff {P : Prop} (h : false = true) : P := nomatch h
theorem nn {α : Type} {a : α} {P : Prop} (h : none = some a) : P := nomatch h
theorem aL {a b : Bool} (h : (a && b) = true) : a = true := (Bool.and_eq_true_iff.mp h).1
theorem aR {a b : Bool} (h : (a && b) = true) : b = true := (Bool.and_eq_true_iff.mp h).2
noncomputable def V.beq (a : V) : V → Bool := V.rec (motive_1 := fun _ => V → Bool) (motive_2 := fun _ => List V → Bool)
 (fun b => V.casesOn (motive_1 := fun _ => Bool) b true (fun _ => false) (fun _ => false) (fun _ => false) (fun _ => false) (fun _ => false) (fun _ => false) (fun _ _ => false))
 (fun x b => V.casesOn (motive_1 := fun _ => Bool) b false (fun y => x == y) (fun _ => false) (fun _ => false) (fun _ => false) (fun _ => false) (fun _ => false) (fun _ _ => false))
 (fun x b => V.casesOn (motive_1 := fun _ => Bool) b false (fun _ => false) (fun y => decide (x = y)) (fun _ => false) (fun _ => false) (fun _ => false) (fun _ => false) (fun _ _ => false))
 (fun x b => V.casesOn (motive_1 := fun _ => Bool) b false (fun _ => false) (fun _ => false) (fun y => decide (x = y)) (fun _ => false) (fun _ => false) (fun _ => false) (fun _ _ => false))
 (fun _ f b => V.casesOn (motive_1 := fun _ => Bool) b false (fun _ => false) (fun _ => false) (fun _ => false) (fun y => f y) (fun _ => false) (fun _ => false) (fun _ _ => false))
 (fun _ f b => V.casesOn (motive_1 := fun _ => Bool) b false (fun _ => false) (fun _ => false) (fun _ => false) (fun _ => false) (fun y => f y) (fun _ => false) (fun _ _ => false))
 (fun x b => V.casesOn (motive_1 := fun _ => Bool) b false (fun _ => false) (fun _ => false) (fun _ => false) (fun _ => false) (fun _ => false) (fun y => decide (x = y)) (fun _ _ => false))
 (fun x y b => V.casesOn (motive_1 := fun _ => Bool) b false (fun _ => false) (fun _ => false) (fun _ => false) (fun _ => false) (fun _ => false) (fun _ => false) (fun u v => decide (x = u) && decide (y = v)))
 (fun b => List.casesOn (motive := fun _ => Bool) b true fun _ _ => false)
 (fun _ _ f g b => List.casesOn (motive := fun _ => Bool) b false fun x xs => f x && g xs) a
inductive Fl where
 | next
 | ret (v : V)
 deriving Inhabited
inductive Src where
 | ref (n : Nat)
 | vals (vs : List V)
 | enum (s : Src)
 deriving Inhabited
noncomputable def O.lst? (o : O) : Option (List V) := O.casesOn (motive := fun _ => Option (List V)) o some (fun _ => none) fun _ _ => none
/-- the list that lies at a place -/
noncomputable def lstAt (μ : Mem) (n : Nat) : Option (List V) := μ[n]?.bind O.lst?
noncomputable def Src.items (s : Src) (μ : Mem) : Option (List V) := Src.casesOn (motive := fun _ => Option (List V)) s (lstAt μ) some fun _ => none
noncomputable def Src.at (s : Src) (i : Nat) (μ : Mem) : Option (Option V) := Src.casesOn (motive := fun _ => Option (Option V)) s (fun n => (lstAt μ n).map fun vs => vs[i]?) (fun vs => some vs[i]?) fun s => (s.items μ).map fun vs => vs[i]?.map fun v => .tup [.int i, v]
noncomputable def isLoc (sc : Scope) (x : Str) : Bool := if x = "__class__" || x = "__classdict__" || x = "__debug__" then false else match sc.names.lookup x with
 | some .local | some .cell | some .free => true
 | _ => false
noncomputable def isOwn (sc : Scope) (x : Str) : Bool := if x = "__class__" || x = "__classdict__" || x = "__debug__" then false else match sc.names.lookup x with
 | some .local | some .cell => true
 | _ => false
noncomputable def isGlob (sc : Scope) (x : Str) : Bool := match sc.names.lookup x with
 | some .globalImplicit => true
 | _ => false
noncomputable def put {α : Type} (l : List (Str × α)) (x : Str) (v : α) : List (Str × α) := match l with
 | [] => [(x, v)]
 | (y, w) :: r => if x = y then (x, v) :: r else (y, w) :: put r x v
noncomputable def dget (es : List (V × V)) (k : V) : Option V := match es with
 | [] => none
 | (y, w) :: r => if V.beq y k then some w else dget r k
noncomputable def dput (es : List (V × V)) (k v : V) : List (V × V) := match es with
 | [] => [(k, v)]
 | (y, w) :: r => if V.beq y k then (y, v) :: r else (y, w) :: dput r k v
noncomputable def ddel (es : List (V × V)) (k : V) : List (V × V) := match es with
 | [] => []
 | (y, w) :: r => if V.beq y k then r else (y, w) :: ddel r k
noncomputable def V.isTup (v : V) : Bool := V.casesOn (motive_1 := fun _ => Bool) v false (fun _ => false) (fun _ => false) (fun _ => false) (fun _ => true) (fun _ => false) (fun _ => false) fun _ _ => false
noncomputable def limit : Nat := 2 ^ 20
/-- a key of a dict: an atom or a tuple of atoms -/
noncomputable def V.atom (v : V) : Bool := V.casesOn (motive_1 := fun _ => Bool) v false (fun _ => false) (fun _ => true) (fun _ => true) (fun _ => false) (fun _ => false) (fun _ => false) fun _ _ => false
noncomputable def V.key (v : V) : Bool := V.casesOn (motive_1 := fun _ => Bool) v false (fun _ => false) (fun _ => true) (fun _ => true) (fun vs => vs.all V.atom) (fun _ => false) (fun _ => false) fun _ _ => false
/-- a key that may be asked of a dict: of the kind of the dict's keys -/
noncomputable def okKey (es : List (V × V)) (k : V) : Bool := k.key && es.all fun e => e.1.isTup == k.isTup
/-- the items of a list or tuple value -/
noncomputable def itemsOf (v : V) (μ : Mem) : Option (List V) := V.casesOn (motive_1 := fun _ => Option (List V)) v none (fun _ => none) (fun _ => none) (fun _ => none) some some (lstAt μ) fun _ _ => none
noncomputable def listOf (v : V) (μ : Mem) : Option (List V) := V.casesOn (motive_1 := fun _ => Option (List V)) v none (fun _ => none) (fun _ => none) (fun _ => none) (fun _ => none) some (lstAt μ) fun _ _ => none
/-- == of values that hold no changing list, but at the top and one below -/
noncomputable def flat (v : V) (μ : Mem) : V := V.casesOn (motive_1 := fun _ => V) v .none .bool .int .str .tup .lst (fun n => ((lstAt μ n).map V.lst).getD (.ref n)) .rng
noncomputable def flat2 (v : V) (μ : Mem) : V := V.casesOn (motive_1 := fun _ => V) v .none .bool .int .str (fun vs => .tup (vs.map fun x => flat x μ)) .lst (fun n => flat (.ref n) μ) .rng
/-- plain data, less than n deep -/
noncomputable def V.pure1 (p : V → Bool) (v : V) : Bool := V.casesOn (motive_1 := fun _ => Bool) v true (fun _ => true) (fun _ => true) PyData.strOk (fun vs => vs.all p) (fun vs => vs.all p) (fun _ => false) fun _ _ => false
noncomputable def V.pureN (n : Nat) : V → Bool := Nat.rec (fun _ => false) (fun _ p => V.pure1 p) n
noncomputable def V.py (v : V) : PyData := V.rec (motive_1 := fun _ => PyData) (motive_2 := fun _ => List PyData) .none .bool .int .str (fun _ r => .tuple r) (fun _ r => .list r) (fun _ => .none) (fun _ _ => .none) [] (fun _ _ a r => a :: r) v
noncomputable def V.pys (vs : List V) : List PyData := V.rec_1 (motive_1 := fun _ => PyData) (motive_2 := fun _ => List PyData) .none .bool .int .str (fun _ r => .tuple r) (fun _ r => .list r) (fun _ => .none) (fun _ _ => .none) [] (fun _ _ a r => a :: r) vs
/-- a == b gives r -/
structure veq (a b : V) (μ : Mem) (r : Bool) : Prop where
 pa : (flat2 a μ).pureN 5 = true
 pb : (flat2 b μ).pureN 5 = true
 is : r = PyData.eqv (flat2 a μ).py (flat2 b μ).py
noncomputable def small (i : Int) : Bool := decide (-(2 ^ 62) < i) && decide (i < 2 ^ 62)
/-- one small letter -/
noncomputable def oneLow (x : Str) : Bool := x.cps.size == 1 && decide (97 ≤ x.cps.getD 0 0) && decide (x.cps.getD 0 0 ≤ 122)
noncomputable def getIdx (vs : List V) (i : Int) : Option V := if 0 ≤ i ∧ i < limit then vs[i.toNat]? else none
/-- lower, upper, step as written: none, or an int; the step none or -1 -/
noncomputable def cutL (vs : List V) (lo hi : Option Int) : Option (List V) :=
 if 0 ≤ lo.getD 0 ∧ 0 ≤ hi.getD 0 then some ((match hi with | none => vs | some b => vs.take b.toNat).drop (lo.getD 0).toNat) else none
noncomputable def insI (i : Int) : List Int → List Int
 | [] => [i]
 | j :: r => if i ≤ j then i :: j :: r else j :: insI i r
noncomputable def sortI : List Int → List Int
 | [] => []
 | i :: r => insI i (sortI r)
noncomputable def ints? : List V → Option (List Int)
 | [] => some []
 | .int i :: r => (ints? r).map (i :: ·)
 | _ => none
noncomputable def dedupI : List Int → List Int
 | [] => []
 | i :: r => if r.contains i then dedupI r else i :: dedupI r
/-- sorted(set(..)): two small numbers at most -/
noncomputable def setSort (xs : List V) : Option V := match ints? xs with
 | some is => if is.length ≤ 2 ∧ is.all (fun i => decide (0 ≤ i) && decide (i < 8)) then some (.lst ((sortI (dedupI is)).map .int)) else none
 | none => none
noncomputable def alloc (o : O) (μ : Mem) : V × Mem := (.ref μ.length, μ ++ [o])
/-- name, bases, body of a def or a class -/
noncomputable def stParts (s : Stmt) : Str × List Expr × List Stmt := @Stmt.casesOn (fun _ => Str × List Expr × List Stmt) s (fun n _ _ _ _ _ _ _ _ _ => (n, [], [])) (fun _ _ _ _ _ _ _ _ _ _ => (Str.empty, [], [])) (fun n bs _ b _ _ _ _ _ _ _ => (n, bs, b)) (fun _ _ => (Str.empty, [], [])) (fun _ _ => (Str.empty, [], [])) (fun _ _ _ => (Str.empty, [], [])) (fun _ _ _ _ _ _ _ => (Str.empty, [], [])) (fun _ _ _ _ => (Str.empty, [], [])) (fun _ _ _ _ _ => (Str.empty, [], [])) (fun _ _ _ _ _ => (Str.empty, [], [])) (fun _ _ _ _ _ => (Str.empty, [], [])) (fun _ _ _ _ => (Str.empty, [], [])) (fun _ _ _ _ => (Str.empty, [], [])) (fun _ _ _ => (Str.empty, [], [])) (fun _ _ _ => (Str.empty, [], [])) (fun _ _ _ => (Str.empty, [], [])) (fun _ _ _ => (Str.empty, [], [])) (fun _ _ _ _ _ => (Str.empty, [], [])) (fun _ _ _ _ _ => (Str.empty, [], [])) (fun _ _ _ => (Str.empty, [], [])) (fun _ _ => (Str.empty, [], [])) (fun _ _ _ _ => (Str.empty, [], [])) (fun _ _ => (Str.empty, [], [])) (fun _ _ => (Str.empty, [], [])) (fun _ _ => (Str.empty, [], [])) (fun _ => (Str.empty, [], [])) (fun _ => (Str.empty, [], [])) (fun _ => (Str.empty, [], []))
noncomputable def topDef (x : Str) : Option Stmt := PySem.Challenge.pw_rg0125_01.main.body.find? fun s => (stParts s).1 == x
noncomputable def nameOf (e : Expr) : Option Str := @Expr.casesOn (fun _ => Option Str) e (fun _ _ _ => none) (fun _ _ _ => none) (fun _ _ _ _ => none) (fun _ _ _ => none) (fun _ _ _ _ => none) (fun _ _ _ _ => none) (fun _ _ _ => none) (fun _ _ _ => none) (fun _ _ _ _ => none) (fun _ _ _ _ => none) (fun _ _ _ _ _ => none) (fun _ _ _ _ => none) (fun _ _ => none) (fun _ _ => none) (fun _ _ => none) (fun _ _ _ _ => none) (fun _ _ _ _ => none) (fun _ _ _ _ => none) (fun _ _ => none) (fun _ _ _ => none) (fun _ _ _ => none) (fun _ _ _ => none) (fun _ _ => none) (fun x _ => some x) (fun _ _ => none) (fun _ _ _ => none) (fun _ _ _ _ => none)
noncomputable def basesOf (C : Str) : List Str := ((topDef C).map fun d => (stParts d).2.1.filterMap nameOf).getD []
/-- the classes of this text have one base at most -/
noncomputable def mroN : Nat → Str → List Str
 | 0, _ => []
 | n + 1, C => C :: (match basesOf C with | b :: _ => mroN n b | [] => [])
noncomputable def ownMethod (C m : Str) : Option Stmt := (topDef C).bind fun d => (stParts d).2.2.find? fun s => (stParts s).1 == m
noncomputable def findM : List Str → Str → Option (Str × Stmt)
 | [], _ => none
 | C :: r, m => match ownMethod C m with
  | some d => some (C, d)
  | none => findM r m
noncomputable def clsTable : List Str := ["Bank", "Unions", "Heap", "Levels", "Trial"]
noncomputable def fnTable : List Str := ["is_op", "_law_tick", "_law_are_like", "_law_due", "_law_pairs"]
noncomputable def attrTable : List Str := ["nodes", "numbers", "weights", "depths", "above", "lots", "merged", "bank", "unions", "edges", "forest", "known", "waiting", "backs", "changes", "marks", "made", "heap"]
noncomputable def methTable : List (Str × Str) := [("Bank", "__init__"), ("Bank", "size"), ("Bank", "take"), ("Bank", "require"), ("Bank", "op"), ("Bank", "kids"),
 ("Unions", "__init__"), ("Unions", "make"), ("Unions", "size"), ("Unions", "find"), ("Unions", "merge"), ("Unions", "classes"), ("Unions", "back"),
 ("Levels", "__init__"), ("Levels", "size"), ("Levels", "node"), ("Levels", "add"), ("Levels", "find"), ("Levels", "are_like"), ("Levels", "merge"), ("Levels", "settle"), ("Levels", "classes"), ("Levels", "depth"), ("Levels", "push"), ("Levels", "pop"), ("Levels", "look_at"), ("Levels", "join"), ("Levels", "unjoin"),
 ("Trial", "__init__"), ("Trial", "tried"), ("Trial", "would"), ("Trial", "causes")]
noncomputable def supTable : List (Str × Str × Str) := [("Levels", "Levels", "__init__"), ("Levels", "Levels", "look_at"), ("Levels", "Levels", "join")]
noncomputable def methodOf (C m : Str) : Option (Str × Stmt) := if methTable.contains (C, m) then findM (mroN 4 C) m else none
noncomputable def superOf (C at_ m : Str) : Option (Str × Stmt) := if supTable.contains (C, at_, m) then findM (((mroN 4 C).dropWhile (· != at_)).drop 1) m else none
noncomputable def topFn (f : Str) : Option Stmt := if fnTable.contains f then topDef f else none
noncomputable def isK (k : Nat) (e : Expr) : Bool := e.ctorIdx == k
noncomputable def isStar : Expr → Bool := isK 22
noncomputable def noStar (es : List Expr) : Bool := es.all fun e => !isStar e
/-- a call -/
noncomputable def isSup : Expr → Bool := isK 16
/-- the parts of o.m -/
noncomputable def attP (e : Expr) : Option (Expr × Pos) := @Expr.casesOn (fun _ => Option (Expr × Pos)) e (fun _ _ _ => none) (fun _ _ _ => none) (fun _ _ _ _ => none) (fun _ _ _ => none) (fun _ _ _ _ => none) (fun _ _ _ _ => none) (fun _ _ _ => none) (fun _ _ _ => none) (fun _ _ _ _ => none) (fun _ _ _ _ => none) (fun _ _ _ _ _ => none) (fun _ _ _ _ => none) (fun _ _ => none) (fun _ _ => none) (fun _ _ => none) (fun _ _ _ _ => none) (fun _ _ _ _ => none) (fun _ _ _ _ => none) (fun _ _ => none) (fun _ _ _ => none) (fun o _ p => some (o, p)) (fun _ _ _ => none) (fun _ _ => none) (fun _ _ => none) (fun _ _ => none) (fun _ _ _ => none) (fun _ _ _ _ => none)
noncomputable def callF (e : Expr) : Option Expr := @Expr.casesOn (fun _ => Option Expr) e (fun _ _ _ => none) (fun _ _ _ => none) (fun _ _ _ _ => none) (fun _ _ _ => none) (fun _ _ _ _ => none) (fun _ _ _ _ => none) (fun _ _ _ => none) (fun _ _ _ => none) (fun _ _ _ _ => none) (fun _ _ _ _ => none) (fun _ _ _ _ _ => none) (fun _ _ _ _ => none) (fun _ _ => none) (fun _ _ => none) (fun _ _ => none) (fun _ _ _ _ => none) (fun f _ _ _ => some f) (fun _ _ _ _ => none) (fun _ _ => none) (fun _ _ _ => none) (fun _ _ _ => none) (fun _ _ _ => none) (fun _ _ => none) (fun _ _ => none) (fun _ _ => none) (fun _ _ _ => none) (fun _ _ _ _ => none)
noncomputable def stE (s : Stmt) : Option Expr := @Stmt.casesOn (fun _ => Option Expr) s (fun _ _ _ _ _ _ _ _ _ _ => none) (fun _ _ _ _ _ _ _ _ _ _ => none) (fun _ _ _ _ _ _ _ _ _ _ _ => none) (fun e _ => e) (fun _ _ => none) (fun _ _ _ => none) (fun _ _ _ _ _ _ _ => none) (fun _ _ _ _ => none) (fun _ _ _ _ _ => none) (fun _ _ _ _ _ => none) (fun _ _ _ _ _ => none) (fun _ _ _ _ => none) (fun _ _ _ _ => none) (fun _ _ _ => none) (fun _ _ _ => none) (fun _ _ _ => none) (fun _ _ _ => none) (fun _ _ _ _ _ => none) (fun _ _ _ _ _ => none) (fun _ _ _ => none) (fun _ _ => none) (fun _ _ _ _ => none) (fun _ _ => none) (fun _ _ => none) (fun e _ => some e) (fun _ => none) (fun _ => none) (fun _ => none)
/-- a statement that calls a method of what a call gives: super().m(..) -/
noncomputable def supSt (s : Stmt) : Bool := (((stE s).bind callF).bind attP).any fun q => isSup q.1
/-- a call within one line, of few arguments -/
noncomputable def callOk (f : Expr) (args : List Expr) (p : Pos) : Bool := noStar args && (attP f).all fun q => q.2.endLine == p.line && decide (args.length < 30) && !isSup q.1
noncomputable def isSetE : Expr → Bool := isK 7
/-- a clause of a comprehension: not async, not over a set written out -/
noncomputable def genOk (g : Comprehension) : Bool := g.is_async == 0 && !isSetE g.iter
/-- a comprehension whose names are as they should be -/
noncomputable def compOk (sc outer : Scope) (gens : List Comprehension) : Bool :=
 sc.kind == .function && decide ((sc.names.map (·.1)).Nodup) && gens.all genOk &&
 sc.names.all fun (x, k) => k != .cell && (k != .free || (isLoc sc x && isLoc outer x && (outer.names.lookup x == some .cell || outer.names.lookup x == some .free)))
/-- a for over enumerate unpacks what it is given at once -/
noncomputable def okT (s : Src) (t : Expr) : Bool := Src.casesOn (motive := fun _ => Bool) s (fun _ => true) (fun _ => true) fun _ => isK 25 t
/-- «x, y = a, b»: are the stores done from the last one on? -/
noncomputable def swapK (ts vs : List Expr) (sc : Scope) : Option Bool :=
 if !(ts.length == 2 || ts.length == 3) || vs.length != ts.length then some false
 else if vs.any (fun | .Starred .. => true | _ => false) then some false
 else
  let line := (ts.head?.map (·.pos.line)).getD 0
  let names := ts.filterMap fun
   | .Name id pos => if sc.names.lookup id == some .local && pos.line == line then some id else none
   | _ => none
  if names.length != ts.length || names.eraseDups.length != names.length then some false
  else if vs.all (foldedForSure 8) then some false
  else if vs.all (constantsAlone 8) then none
  else some true
/-- where we stand: the class whose def is run, the scope -/
structure Here where
 cls : Str
 sc : Scope
noncomputable def zipBinds (sc : Scope) : List Arg → List V → Loc → Option Loc
 | [], [], ρ => some ρ
 | a :: as, v :: vs, ρ => if isOwn sc a.arg then zipBinds sc as vs (put ρ a.arg v) else none
 | _, _, _ => none
noncomputable def rngItems (lo hi : Int) : List V := (List.range (hi - lo).toNat).map fun (i : Nat) => V.int (lo + (i : Int))
noncomputable def okRng (lo hi : Int) : Bool := small lo && small hi && decide ((hi - lo).toNat < limit)
/-- dict(..) of a list of pairs -/
inductive PairsD : List V → List (V × V) → List (V × V) → Prop
 | nil (es : List (V × V)) : PairsD [] es es
 | cons {k v : V} {r : List V} {es fs : List (V × V)} : okKey es k = true → es.length < limit → PairsD r (dput es k v) fs → PairsD (.tup [k, v] :: r) es fs
noncomputable def isBltn (f : Str) : Bool := (["len", "list", "tuple", "dict", "range", "sorted", "sum", "max", "int"] : List Str).contains f
noncomputable def bltns : List Str := ["len", "list", "tuple", "dict", "range", "sorted", "sum", "max", "int", "set", "enumerate", "super"]
end Mine
set_option tactic.hygienic true
set_option tactic.hygienic false
namespace Mine
abbrev Own := List (Addr × Option Addr)
noncomputable def owned (ι : Own) : List Addr := ι.flatMap fun p => p.1 :: p.2.toList
noncomputable def PL (h : Heap) (a : Addr) (items : List Value) : Prop := ∃ n, h.get? a = some { cls := .type "list", dict := none, data := .seq items.toArray n, slots := #[] }
noncomputable def PT (h : Heap) (a : Addr) (items : List Value) : Prop := ∃ n, h.get? a = some { cls := .type "tuple", dict := none, data := .seq items.toArray n, slots := #[] }
theorem PL.isList {h : Heap} {a : Addr} {items : List Value} (x : PL h a items) : h.IsList a items.toArray := let ⟨n, e⟩ := x; ⟨_, e, rfl, n, rfl⟩
theorem PT.isTuple {h : Heap} {a : Addr} {items : List Value} (x : PT h a items) : h.IsTuple a items.toArray := let ⟨n, e⟩ := x; ⟨_, e, rfl, n, rfl⟩
theorem PL.at {h h' : Heap} {a : Addr} {items : List Value} (x : PL h a items) (k : ∀ o, h.get? a = some o → h'.get? a = some o) : PL h' a items := let ⟨n, e⟩ := x; ⟨n, k _ e⟩
theorem PT.at {h h' : Heap} {a : Addr} {items : List Value} (x : PT h a items) (k : ∀ o, h.get? a = some o → h'.get? a = some o) : PT h' a items := let ⟨n, e⟩ := x; ⟨n, k _ e⟩
theorem PL.lt {h : Heap} {a : Addr} {items : List Value} (x : PL h a items) : a < h.objs.size := let ⟨_, e⟩ := x; Heap.lt_size e
theorem PT.lt {h : Heap} {a : Addr} {items : List Value} (x : PT h a items) : a < h.objs.size := let ⟨_, e⟩ := x; Heap.lt_size e
mutual
inductive RelV (ι : Own) (S : List Addr) (h : Heap) : Value → V → Prop
 | none : RelV ι S h .none .none
 | bool (b : Bool) : RelV ι S h (.bool b) (.bool b)
 | int (i : Int) (t : Tok) : RelV ι S h (.int i t) (.int i)
 | str (x : Str) (t : Tok) : RelV ι S h (.str x t) (.str x)
 | tup {a : Addr} {items : List Value} {vs : List V} : PT h a items → a ∉ owned ι → a ∉ S → RelVs ι S h items vs → RelV ι S h (.ref a) (.tup vs)
 | lst {a : Addr} {items : List Value} {vs : List V} : PL h a items → a ∉ owned ι → a ∉ S → RelVs ι S h items vs → RelV ι S h (.ref a) (.lst vs)
 | ref {a : Addr} {n : Nat} {d : Option Addr} : ι[n]? = some (a, d) → RelV ι S h (.ref a) (.ref n)
 | rng {a : Addr} {lo hi : Int} {t u v : Tok} : IsRange h a lo hi 1 t u v → a ∉ owned ι → a ∉ S → RelV ι S h (.ref a) (.rng lo hi)
inductive RelVs (ι : Own) (S : List Addr) (h : Heap) : List Value → List V → Prop
 | nil : RelVs ι S h [] []
 | cons {v : Value} {x : V} {vs : List Value} {xs : List V} : RelV ι S h v x → RelVs ι S h vs xs → RelVs ι S h (v :: vs) (x :: xs)
end
inductive All2 {α β : Type} (R : α → β → Prop) : List α → List β → Prop
 | nil : All2 R [] []
 | cons {x : α} {y : β} {xs : List α} {ys : List β} : R x y → All2 R xs ys → All2 R (x :: xs) (y :: ys)
theorem All2.length {α β : Type} {R : α → β → Prop} {xs : List α} {ys : List β} (r : All2 R xs ys) : xs.length = ys.length := by
 induction r with
 | nil => rfl
 | cons _ _ e => exact congrArg (· + 1) e
theorem All2.imp {α β : Type} {R R' : α → β → Prop} (i : ∀ x y, R x y → R' x y) {xs : List α} {ys : List β} (r : All2 R xs ys) : All2 R' xs ys := by
 induction r with
 | nil => exact .nil
 | cons h _ r => exact .cons (i _ _ h) r
theorem All2.snoc {α β : Type} {R : α → β → Prop} {x : α} {y : β} (h : R x y) {xs : List α} {ys : List β} (r : All2 R xs ys) : All2 R (xs ++ [x]) (ys ++ [y]) := by
 induction r with
 | nil => exact .cons h .nil
 | cons g _ r => exact .cons g r
section
variable {ι : Own} {S : List Addr} {h : Heap} {v : Value} {x : V} {P : Value → Prop}
/-- what a value is, by what it stands for -/
noncomputable def RelV.Is (ι : Own) (S : List Addr) (h : Heap) (v : Value) (x : V) : Prop := V.casesOn (motive_1 := fun _ => Prop) x (v = .none) (fun b => v = .bool b) (fun i => ∃ t, v = .int i t) (fun z => ∃ t, v = .str z t)
 (fun xs => ∃ a us, (PT h a us ∧ a ∉ owned ι ∧ a ∉ S ∧ RelVs ι S h us xs) ∧ v = .ref a) (fun xs => ∃ a us, (PL h a us ∧ a ∉ owned ι ∧ a ∉ S ∧ RelVs ι S h us xs) ∧ v = .ref a)
 (fun n => ∃ a d, ι[n]? = some (a, d) ∧ v = .ref a) fun lo hi => ∃ a t u w, (IsRange h a lo hi 1 t u w ∧ a ∉ owned ι ∧ a ∉ S) ∧ v = .ref a
theorem RelV.is (r : RelV ι S h v x) : RelV.Is ι S h v x :=
 RelV.casesOn (motive_1 := fun v x _ => RelV.Is ι S h v x) r rfl (fun _ => rfl) (fun _ t => ⟨t, rfl⟩) (fun _ t => ⟨t, rfl⟩) (fun p a b r => ⟨_, _, ⟨p, a, b, r⟩, rfl⟩) (fun p a b r => ⟨_, _, ⟨p, a, b, r⟩, rfl⟩) (fun e => ⟨_, _, e, rfl⟩) fun p a b => ⟨_, _, _, _, ⟨p, a, b⟩, rfl⟩
theorem RelV.noneI (r : RelV ι S h v .none) (K : P .none) : P v := (show v = .none from r.is) ▸ K
theorem RelV.boolI {b : Bool} (r : RelV ι S h v (.bool b)) (K : P (.bool b)) : P v := (show v = .bool b from r.is) ▸ K
theorem RelV.intI {i : Int} (r : RelV ι S h v (.int i)) (K : ∀ t, P (.int i t)) : P v := r.is.elim fun t e => (show v = .int i t from e) ▸ K t
theorem RelV.strI {i : Str} (r : RelV ι S h v (.str i)) (K : ∀ t, P (.str i t)) : P v := r.is.elim fun t e => (show v = .str i t from e) ▸ K t
theorem RelV.tupI {xs : List V} (r : RelV ι S h v (.tup xs)) (K : ∀ a us, PT h a us → a ∉ owned ι → a ∉ S → RelVs ι S h us xs → P (.ref a)) : P v := r.is.elim fun a h => h.elim fun us h => (show v = .ref a from h.2) ▸ K a us h.1.1 h.1.2.1 h.1.2.2.1 h.1.2.2.2
theorem RelV.seqI {xs : List V} (r : RelV ι S h v (.lst xs)) (K : ∀ a us, PL h a us → a ∉ owned ι → a ∉ S → RelVs ι S h us xs → P (.ref a)) : P v := r.is.elim fun a h => h.elim fun us h => (show v = .ref a from h.2) ▸ K a us h.1.1 h.1.2.1 h.1.2.2.1 h.1.2.2.2
theorem RelV.refI {k : Nat} (r : RelV ι S h v (.ref k)) (K : ∀ a d, ι[k]? = some (a, d) → P (.ref a)) : P v := r.is.elim fun a h => h.elim fun d h => (show v = .ref a from h.2) ▸ K a d h.1
theorem RelV.rngI {lo hi : Int} (r : RelV ι S h v (.rng lo hi)) (K : ∀ a t u w, IsRange h a lo hi 1 t u w → a ∉ owned ι → a ∉ S → P (.ref a)) : P v := r.is.elim fun a h => h.elim fun t h => h.elim fun u h => h.elim fun w h => (show v = .ref a from h.2) ▸ K a t u w h.1.1 h.1.2.1 h.1.2.2
end
section
variable {ι : Own} {S : List Addr} {h : Heap} {vs : List Value} {xs : List V}
theorem RelVs.ind {P : List Value → List V → Prop} (nil : P [] []) (cons : ∀ {v x vs xs}, RelV ι S h v x → RelVs ι S h vs xs → P vs xs → P (v :: vs) (x :: xs)) (r : RelVs ι S h vs xs) : P vs xs :=
 RelVs.rec (motive_1 := fun _ _ _ => True) (motive_2 := fun vs xs _ => P vs xs) trivial (fun _ => trivial) (fun _ _ => trivial) (fun _ _ => trivial) (fun _ _ _ _ _ => trivial) (fun _ _ _ _ _ => trivial) (fun _ => trivial) (fun _ _ _ => trivial) nil (fun a r _ ih => cons a r ih) r
theorem RelVs.length (r : RelVs ι S h vs xs) : vs.length = xs.length := r.ind (P := fun vs xs => vs.length = xs.length) rfl fun _ _ e => congrArg (· + 1) e
theorem RelVs.get {i : Nat} {x : V} (r : RelVs ι S h vs xs) (e : xs[i]? = some x) : ∃ v, vs[i]? = some v ∧ RelV ι S h v x :=
 r.ind (P := fun vs xs => ∀ i, xs[i]? = some x → ∃ v, vs[i]? = some v ∧ RelV ι S h v x) (fun _ e => nomatch (show none = some x from e)) (fun a _ ih i e => by
  cases i with
  | zero => exact ⟨_, rfl, Option.some.inj e ▸ a⟩
  | succ i => exact ih i e) i e
theorem RelVs.append {ws : List Value} {ys : List V} (r : RelVs ι S h vs xs) (q : RelVs ι S h ws ys) : RelVs ι S h (vs ++ ws) (xs ++ ys) := r.ind (P := fun vs xs => RelVs ι S h (vs ++ ws) (xs ++ ys)) q fun a _ r => .cons a r
theorem RelVs.take (n : Nat) (r : RelVs ι S h vs xs) : RelVs ι S h (vs.take n) (xs.take n) :=
 r.ind (P := fun vs xs => ∀ n, RelVs ι S h (vs.take n) (xs.take n)) (fun n => by cases n <;> exact .nil) (fun a _ ih n => by
  cases n with
  | zero => exact .nil
  | succ n => exact .cons a (ih n)) n
theorem RelVs.drop (n : Nat) (r : RelVs ι S h vs xs) : RelVs ι S h (vs.drop n) (xs.drop n) :=
 r.ind (P := fun vs xs => ∀ n, RelVs ι S h (vs.drop n) (xs.drop n)) (fun n => by cases n <;> exact .nil) (fun a r ih n => by
  cases n with
  | zero => exact .cons a r
  | succ n => exact ih n) n
theorem RelVs.set (n : Nat) {v : Value} {x : V} (r : RelVs ι S h vs xs) (z : RelV ι S h v x) : RelVs ι S h (vs.set n v) (xs.set n x) :=
 r.ind (P := fun vs xs => ∀ n, RelVs ι S h (vs.set n v) (xs.set n x)) (fun _ => .nil) (fun a r ih n => by
  cases n with
  | zero => exact .cons z r
  | succ n => exact .cons a (ih n)) n
theorem RelVs.reverse (r : RelVs ι S h vs xs) : RelVs ι S h vs.reverse xs.reverse :=
 r.ind (P := fun vs xs => RelVs ι S h vs.reverse xs.reverse) .nil fun a _ r => by rw [List.reverse_cons, List.reverse_cons]; exact r.append (.cons a .nil)
theorem RelVs.is (r : RelVs ι S h vs xs) : List.casesOn (motive := fun _ => Prop) xs (vs = []) fun x xs => ∃ v us, (RelV ι S h v x ∧ RelVs ι S h us xs) ∧ vs = v :: us :=
 RelVs.casesOn (motive_2 := fun vs xs _ => List.casesOn (motive := fun _ => Prop) xs (vs = []) fun x xs => ∃ v us, (RelV ι S h v x ∧ RelVs ι S h us xs) ∧ vs = v :: us) r rfl fun a r => ⟨_, _, ⟨a, r⟩, rfl⟩
theorem RelVs.nilI {P : List Value → Prop} (r : RelVs ι S h vs []) (K : P []) : P vs := (show vs = [] from r.is) ▸ K
theorem RelVs.consI {x : V} {P : List Value → Prop} (r : RelVs ι S h vs (x :: xs)) (K : ∀ v us, RelV ι S h v x → RelVs ι S h us xs → P (v :: us)) : P vs := r.is.elim fun v h => h.elim fun us h => (show vs = v :: us from h.2) ▸ K v us h.1.1 h.1.2
theorem RelVs.one {x : V} {P : List Value → Prop} (r : RelVs ι S h vs [x]) (K : ∀ u, RelV ι S h u x → P [u]) : P vs := r.consI fun u _ a r => r.nilI (P := fun us => P (u :: us)) (K u a)
theorem RelVs.two {x y : V} {P : List Value → Prop} (r : RelVs ι S h vs [x, y]) (K : ∀ u v, RelV ι S h u x → RelV ι S h v y → P [u, v]) : P vs := r.consI fun u _ a r => r.one (P := fun us => P (u :: us)) fun v b => K u v a b
end
/-- what a run may do: the memory's own objects change and grow, X (private things of the frame at hand) may change, all else stays -/
structure Ext (X : List Addr) (ι : Own) (h : Heap) (ι' : Own) (h' : Heap) : Prop where
 pre : ∃ r, ι' = ι ++ r
 keep : ∀ b o, b ∉ owned ι → b ∉ X → h.get? b = some o → h'.get? b = some o
 fresh : ∀ a ∈ owned ι', a ∈ owned ι ∨ h.get? a = none
 live : ∀ a, h'.get? a = none → h.get? a = none
theorem none_of_keeps {h h' : Heap} (k : ∀ b o, h.get? b = some o → h'.get? b = some o) (a : Addr) (e : h'.get? a = none) : h.get? a = none := by
 cases q : h.get? a with
 | none => rfl
 | some o => rw [k a o q] at e; cases e
theorem Ext.refl (X : List Addr) (ι : Own) (h : Heap) : Ext X ι h ι h := ⟨⟨[], by simp⟩, fun _ _ _ _ e => e, fun _ a => .inl a, fun _ e => e⟩
theorem Ext.trans {X : List Addr} {ι ι' ι'' : Own} {h h' h'' : Heap} (a : Ext X ι h ι' h') (b : Ext X ι' h' ι'' h'') : Ext X ι h ι'' h'' := by
 refine ⟨?_, fun c o n1 n2 e => ?_, fun c hc => ?_, fun c e => a.live c (b.live c e)⟩
 ·obtain ⟨r, rfl⟩ := a.pre
  obtain ⟨r', rfl⟩ := b.pre
  exact ⟨r ++ r', by simp⟩
 ·refine b.keep c o (fun hc => ?_) n2 (a.keep c o n1 n2 e)
  rcases a.fresh c hc with q | q
  ·exact n1 q
  ·rw [e] at q; cases q
 ·rcases b.fresh c hc with q | q
  ·exact a.fresh c q
  ·exact .inr (a.live c q)
theorem Ext.weaken {X Y : List Addr} {ι ι' : Own} {h h' : Heap} (a : Ext X ι h ι' h') (s : ∀ x ∈ X, x ∈ Y) : Ext Y ι h ι' h' :=
 ⟨a.pre, fun b o n1 n2 e => a.keep b o n1 (fun q => n2 (s b q)) e, a.fresh, a.live⟩
theorem Ext.of_keeps {X : List Addr} {ι : Own} {h h' : Heap} (k : ∀ b o, h.get? b = some o → h'.get? b = some o) : Ext X ι h ι h' :=
 ⟨⟨[], by simp⟩, fun b o _ _ e => k b o e, fun _ a => .inl a, none_of_keeps k⟩
theorem Ext.get {X : List Addr} {ι ι' : Own} {h h' : Heap} (a : Ext X ι h ι' h') {n : Nat} {p : Addr × Option Addr} (e : ι[n]? = some p) : ι'[n]? = some p := by
 obtain ⟨r, rfl⟩ := a.pre
 rw [List.getElem?_append_left (List.getElem?_eq_some_iff.mp e).1]; exact e
theorem Ext.not_owned {X : List Addr} {ι ι' : Own} {h h' : Heap} (a : Ext X ι h ι' h') {b : Addr} {o : Obj} (n : b ∉ owned ι) (l : h.get? b = some o) : b ∉ owned ι' := fun q => by
 rcases a.fresh b q with q | q
 ·exact n q
 ·rw [l] at q; cases q
theorem PL.live {h : Heap} {a : Addr} {items : List Value} (x : PL h a items) : h.get? a ≠ none := let ⟨_, e⟩ := x; by rw [e]; simp
theorem PT.live {h : Heap} {a : Addr} {items : List Value} (x : PT h a items) : h.get? a ≠ none := let ⟨_, e⟩ := x; by rw [e]; simp
theorem Ext.not_owned' {X : List Addr} {ι ι' : Own} {h h' : Heap} (a : Ext X ι h ι' h') {b : Addr} (n : b ∉ owned ι) (l : h.get? b ≠ none) : b ∉ owned ι' := fun q => by
 rcases a.fresh b q with q | q
 ·exact n q
 ·exact l q
section
variable {X S S' : List Addr} {ι ι' : Own} {h h' : Heap} {v : Value} {x : V} {vs : List Value} {xs : List V}
/-- what a value is stays so -/
structure Mv (ι : Own) (S : List Addr) (h : Heap) (ι' : Own) (S' : List Addr) (h' : Heap) : Prop where
 ref : ∀ (n : Nat) (p : Addr × Option Addr), ι[n]? = some p → ι'[n]? = some p
 obj : ∀ a o, a ∉ owned ι → a ∉ S → h.get? a = some o → h'.get? a = some o ∧ a ∉ owned ι' ∧ a ∉ S'
theorem PL.mv {a : Addr} {items : List Value} (p : PL h a items) (M : Mv ι S h ι' S' h') (n1 : a ∉ owned ι) (n2 : a ∉ S) : PL h' a items ∧ a ∉ owned ι' ∧ a ∉ S' := p.elim fun n e => ⟨⟨n, (M.obj a _ n1 n2 e).1⟩, (M.obj a _ n1 n2 e).2⟩
theorem PT.mv {a : Addr} {items : List Value} (p : PT h a items) (M : Mv ι S h ι' S' h') (n1 : a ∉ owned ι) (n2 : a ∉ S) : PT h' a items ∧ a ∉ owned ι' ∧ a ∉ S' := p.elim fun n e => ⟨⟨n, (M.obj a _ n1 n2 e).1⟩, (M.obj a _ n1 n2 e).2⟩
theorem RelV.mv (M : Mv ι S h ι' S' h') (r : RelV ι S h v x) : RelV ι' S' h' v x :=
 RelV.rec (motive_1 := fun v x _ => RelV ι' S' h' v x) (motive_2 := fun vs xs _ => RelVs ι' S' h' vs xs) .none .bool .int .str (fun p n1 n2 _ r => .tup (p.mv M n1 n2).1 (p.mv M n1 n2).2.1 (p.mv M n1 n2).2.2 r) (fun p n1 n2 _ r => .lst (p.mv M n1 n2).1 (p.mv M n1 n2).2.1 (p.mv M n1 n2).2.2 r)
  (fun e => .ref (M.ref _ _ e)) (fun p n1 n2 => .rng (M.obj _ _ n1 n2 p).1 (M.obj _ _ n1 n2 p).2.1 (M.obj _ _ n1 n2 p).2.2) .nil (fun _ _ a r => .cons a r) r
theorem RelVs.mv (M : Mv ι S h ι' S' h') (r : RelVs ι S h vs xs) : RelVs ι' S' h' vs xs := r.ind .nil fun a _ r => .cons (a.mv M) r
theorem Mv.mono (E : Ext X ι h ι' h') (s : ∀ x ∈ X, x ∈ S) : Mv ι S h ι' S h' := ⟨fun _ _ e => E.get e, fun a o n1 n2 e => ⟨E.keep a o n1 (fun q => n2 (s _ q)) e, E.not_owned n1 e, n2⟩⟩
theorem RelV.mono (E : Ext X ι h ι' h') (s : ∀ x ∈ X, x ∈ S) (r : RelV ι S h v x) : RelV ι' S h' v x := r.mv (.mono E s)
theorem RelVs.mono (E : Ext X ι h ι' h') (s : ∀ x ∈ X, x ∈ S) (r : RelVs ι S h vs xs) : RelVs ι' S h' vs xs := r.mv (.mono E s)
theorem Mv.sub (s : ∀ x ∈ S', x ∈ S) : Mv ι S h ι S' h := ⟨fun _ _ e => e, fun _ _ n1 n2 e => ⟨e, n1, fun q => n2 (s _ q)⟩⟩
theorem RelV.sub (s : ∀ x ∈ S', x ∈ S) (r : RelV ι S h v x) : RelV ι S' h v x := r.mv (.sub s)
theorem RelVs.sub (s : ∀ x ∈ S', x ∈ S) (r : RelVs ι S h vs xs) : RelVs ι S' h vs xs := r.mv (.sub s)
theorem Mv.add (T : List Addr) (t : ∀ x ∈ T, h.get? x = none) : Mv ι S h ι (T ++ S) h := ⟨fun _ _ e => e, fun _ _ n1 n2 e => ⟨e, n1, fun q => (List.mem_append.mp q).elim (fun q => nomatch (t _ q).symm.trans e) n2⟩⟩
theorem RelV.add (T : List Addr) (t : ∀ x ∈ T, h.get? x = Option.none) (r : RelV ι S h v x) : RelV ι (T ++ S) h v x := r.mv (.add T t)
theorem RelVs.add (T : List Addr) (t : ∀ x ∈ T, h.get? x = none) (r : RelVs ι S h vs xs) : RelVs ι (T ++ S) h vs xs := r.mv (.add T t)
end
end Mine
set_option tactic.hygienic true
set_option tactic.hygienic false
namespace Mine
theorem V.beq_imp (a : V) : ∀ b, a.beq b = true → a = b := by
 refine V.rec (motive_1 := fun a => ∀ b, a.beq b = true → a = b) (motive_2 := fun as => ∀ bs, V.beq (.lst as) (.lst bs) = true → as = bs) ?_ ?_ ?_ ?_ ?_ ?_ ?_ ?_ ?_ ?_ a
 ·intro b; cases b with | none => exact fun _ => rfl | _ => exact ff
 ·intro x b; cases b with | bool y => exact fun h => congrArg V.bool (beq_iff_eq.mp h) | _ => exact ff
 ·intro x b; cases b with | int y => exact fun h => congrArg V.int (of_decide_eq_true h) | _ => exact ff
 ·intro x b; cases b with | str y => exact fun h => congrArg V.str (of_decide_eq_true h) | _ => exact ff
 ·intro x ih b; cases b with | tup y => exact fun h => congrArg V.tup (ih y h) | _ => exact ff
 ·intro x ih b; cases b with | lst y => exact fun h => congrArg V.lst (ih y h) | _ => exact ff
 ·intro x b; cases b with | ref y => exact fun h => congrArg V.ref (of_decide_eq_true h) | _ => exact ff
 ·intro x y b; cases b with | rng u v => exact fun h => congr (congrArg V.rng (of_decide_eq_true (Bool.and_eq_true_iff.mp h).1)) (of_decide_eq_true (Bool.and_eq_true_iff.mp h).2) | _ => exact ff
 ·intro b; cases b with | nil => exact fun _ => rfl | cons _ _ => exact ff
 ·intro x xs f g b; cases b with | nil => exact ff | cons y ys => exact fun h => congr (congrArg List.cons (f y (Bool.and_eq_true_iff.mp h).1)) (g ys (Bool.and_eq_true_iff.mp h).2)
theorem V.beq_self (a : V) : a.beq a = true :=
 V.rec (motive_1 := fun a => a.beq a = true) (motive_2 := fun as => V.beq (.lst as) (.lst as) = true) rfl (fun x => beq_self_eq_true x) (fun x => decide_eq_true rfl) (fun x => decide_eq_true rfl) (fun _ h => h) (fun _ h => h) (fun x => decide_eq_true rfl)
  (fun x y => Bool.and_eq_true_iff.mpr ⟨decide_eq_true rfl, decide_eq_true rfl⟩) rfl (fun _ _ f g => Bool.and_eq_true_iff.mpr ⟨f, g⟩) a
theorem V.beq_iff (a b : V) : V.beq a b = true ↔ a = b := ⟨V.beq_imp a b, fun e => e ▸ V.beq_self a⟩
theorem V.beq_ne {a b : V} (h : a ≠ b) : V.beq a b = false := Bool.eq_false_iff.mpr fun e => h (V.beq_imp a b e)
theorem nodup_of_map {α β : Type} (f : α → β) {l : List α} (h : (l.map f).Nodup) : l.Nodup := List.Pairwise.imp (fun h e => h (congrArg f e)) (List.pairwise_map.mp h)
/-- the small keys: a number or a text -/
noncomputable def atv (a : Int ⊕ Str) : V := a.casesOn .int .str
noncomputable def atom? (v : V) : Option (Int ⊕ Str) := V.casesOn (motive_1 := fun _ => Option (Int ⊕ Str)) v none (fun _ => none) (fun i => some (.inl i)) (fun x => some (.inr x)) (fun _ => none) (fun _ => none) (fun _ => none) fun _ _ => none
noncomputable def atomIs (a : Int ⊕ Str) (v : Value) : Bool := a.casesOn (Value.isInt · v) (Value.isStrOf · v)
theorem atomIs_inj (v : Value) (a b : Int ⊕ Str) (ha : atomIs a v = true) (hb : atomIs b v = true) : a = b := by
 cases a with
 | inl i =>
  obtain ⟨t, rfl⟩ := Value.isInt_shape ha
  cases b with
  | inl j => exact congrArg Sum.inl (Value.isInt_inj (.int i t) i j ha hb)
  | inr y => exact ff hb
 | inr x =>
  obtain ⟨t, rfl⟩ := Value.isStrOf_shape ha
  cases b with
  | inl j => exact ff hb
  | inr y => exact congrArg Sum.inr (Value.isStrOf_inj (.str x t) x y ha hb)
noncomputable def atomKind (prog : Program) (w : World) : KeyKind prog w (Int ⊕ Str) where
 is := atomIs
 hash := fun a => a.casesOn hashInt (hashStr w)
 inj := atomIs_inj
 byValue := fun k v h => match k with
  | .inl i => (intKind prog w).byValue i v h
  | .inr x => (strKind prog w).byValue x v h
 pyHash := fun {A E s k v Q} h q => match k with
  | .inl i => (intKind prog w).pyHash (k := i) h q
  | .inr x => (strKind prog w).pyHash (k := x) h q
 eqBool := fun {A E s a b u v Q} ha hb h => by
  cases a with
  | inl i =>
   cases b with
   | inl j => exact (intKind prog w).eqBool (a := i) (b := j) ha hb ((show decide ((.inl i : Int ⊕ Str) = .inl j) = decide (i = j) from decide_eq_decide.mpr ⟨Sum.inl.inj, congrArg _⟩) ▸ h)
   | inr y =>
    obtain ⟨t, rfl⟩ := Value.isInt_shape ha
    obtain ⟨t', rfl⟩ := Value.isStrOf_shape hb
    exact SeqAt.EqAt.int_str (A := A) (s := s) i t y t' prog w E Q h
  | inr x =>
   cases b with
   | inl j =>
    obtain ⟨t, rfl⟩ := Value.isStrOf_shape ha
    obtain ⟨t', rfl⟩ := Value.isInt_shape hb
    exact SeqAt.EqAt.str_int (A := A) (s := s) x t j t' prog w E Q h
   | inr y => exact (strKind prog w).eqBool (a := x) (b := y) ha hb ((show decide ((.inr x : Int ⊕ Str) = .inr y) = decide (x = y) from decide_eq_decide.mpr ⟨Sum.inr.inj, congrArg _⟩) ▸ h)
 «strs» := fun k x t v h => match k with
  | .inl i => ff h
  | .inr y => (strKind prog w).strs y x t v h
section
variable {prog : Program} {w : World} {ι : Own} {S : List Addr} {h : Heap}
theorem atom_of_rel {v : Value} {x : V} (r : RelV ι S h v x) (k : x.atom = true) : ∃ a, x = atv a ∧ atomIs a v = true := by
 cases x with
 | int i => exact r.intI (P := fun v => ∃ a, V.int i = atv a ∧ atomIs a v = true) fun t => ⟨.inl i, rfl, decide_eq_true rfl⟩
 | str z => exact r.strI (P := fun v => ∃ a, V.str z = atv a ∧ atomIs a v = true) fun t => ⟨.inr z, rfl, beq_self_eq_true z⟩
 | _ => exact ff k
theorem atoms_of_rel (prog : Program) (w : World) {vs : List Value} {xs : List V} (r : RelVs ι S h vs xs) : xs.all V.atom = true → ∃ as, xs = as.map atv ∧ ItemsAre (atomKind prog w) as vs :=
 r.ind (P := fun vs xs => xs.all V.atom = true → ∃ as, xs = as.map atv ∧ ItemsAre (atomKind prog w) as vs) (fun _ => ⟨[], rfl, .nil⟩) fun a _ ih k => (ih (Bool.and_eq_true_iff.mp k).2).elim fun bs q => (atom_of_rel a (Bool.and_eq_true_iff.mp k).1).elim fun b p => ⟨b :: bs, congr (congrArg _ p.1) q.1, .cons p.2 q.2⟩
theorem atom?_v (a : Int ⊕ Str) : atom? (atv a) = some a := by cases a <;> rfl
theorem atoms_v (as : List (Int ⊕ Str)) : (as.map atv).filterMap atom? = as := by
 induction as with
 | nil => rfl
 | cons a r ih => rw [List.map_cons, List.filterMap_cons, atom?_v, ih]
theorem atv_inj {a b : Int ⊕ Str} (e : atv a = atv b) : a = b := Option.some.inj ((atom?_v a).symm.trans ((congrArg atom? e).trans (atom?_v b)))
theorem atvs_inj {a b : List (Int ⊕ Str)} (e : a.map atv = b.map atv) : a = b := (atoms_v a).symm.trans ((congrArg (List.filterMap atom?) e).trans (atoms_v b))
noncomputable def hashV (prog : Program) (w : World) (v : V) : Int := V.casesOn (motive_1 := fun _ => Int) v 0 (fun _ => 0) hashInt (hashStr w) (fun vs => tupleKeyHash (atomKind prog w) (vs.filterMap atom?)) (fun _ => 0) (fun _ => 0) fun _ _ => 0
theorem hashV_atom (a : Int ⊕ Str) : hashV prog w (atv a) = (atomKind prog w).hash a := by cases a <;> rfl
theorem hashV_tup (as : List (Int ⊕ Str)) : hashV prog w (.tup (as.map atv)) = (tupleKind (atomKind prog w)).hash as := congrArg (tupleKeyHash (atomKind prog w)) (atoms_v as)
theorem key_atom {k : V} (h : k.isTup = false) (hk : k.key = true) : k.atom = true := by
 cases k with
 | tup => exact ff h.symm
 | _ => exact hk
inductive RelE (prog : Program) (w : World) (ι : Own) (S : List Addr) (h : Heap) : List DictEntry → List (V × V) → Prop
 | nil : RelE prog w ι S h [] []
 | cons {e : DictEntry} {k x : V} {es : List DictEntry} {kvs : List (V × V)} : RelV ι S h e.key k → k.key = true → e.hash = hashV prog w k → RelV ι S h e.val x → RelE prog w ι S h es kvs →
   RelE prog w ι S h (e :: es) ((k, x) :: kvs)
theorem RelE.mv {ι' : Own} {S' : List Addr} {h' : Heap} (M : Mv ι S h ι' S' h') {es : List DictEntry} {kvs : List (V × V)} (r : RelE prog w ι S h es kvs) : RelE prog w ι' S' h' es kvs :=
 RelE.rec (motive := fun es kvs _ => RelE prog w ι' S' h' es kvs) .nil (fun a b c d _ r => .cons (a.mv M) b c (d.mv M) r) r
theorem RelE.mono {X : List Addr} {ι' : Own} {h' : Heap} (E : Ext X ι h ι' h') (s : ∀ x ∈ X, x ∈ S) {es : List DictEntry} {kvs : List (V × V)} (r : RelE prog w ι S h es kvs) : RelE prog w ι' S h' es kvs := r.mv (.mono E s)
theorem RelE.length {es : List DictEntry} {kvs : List (V × V)} (r : RelE prog w ι S h es kvs) : es.length = kvs.length := RelE.rec (motive := fun es kvs _ => es.length = kvs.length) rfl (fun _ _ _ _ _ e => congrArg (· + 1) e) r
theorem is_beq {a b : Int ⊕ Str} {v : Value} (hi : atomIs b v = true) : atomIs a v = (atv b).beq (atv a) := Bool.eq_iff_iff.mpr ⟨fun h => (V.beq_iff _ _).mpr (congrArg atv (atomIs_inj v b a hi h)), fun h => atv_inj (V.beq_imp _ _ h) ▸ hi⟩
theorem RelE.atoms {a : Int ⊕ Str} {es : List DictEntry} {kvs : List (V × V)} (r : RelE prog w ι S h es kvs) : (∀ e ∈ kvs, e.1.isTup = false) →
  (∀ e ∈ es, ∃ k, (atomKind prog w).is k e.key = true ∧ e.hash = (atomKind prog w).hash k) ∧ es.findIdx? (fun e => (atomKind prog w).is a e.key) = kvs.findIdx? (fun e => V.beq e.1 (atv a)) := by
 induction r with
 | nil => exact fun _ => ⟨List.forall_mem_nil _, rfl⟩
 | cons r1 b c _ _ ih =>
  intro z
  obtain ⟨k, rfl, hi⟩ := atom_of_rel r1 (key_atom (z _ (.head _)) b)
  have ih := ih fun e he => z e (.tail _ he)
  refine ⟨List.forall_mem_cons.mpr ⟨⟨k, hi, c.trans (hashV_atom k)⟩, ih.1⟩, ?_⟩
  rw [List.findIdx?_cons, List.findIdx?_cons, ih.2, show (atomKind prog w).is a _ = _ from is_beq hi]
theorem tupKey_of (prog : Program) (w : World) {v : Value} {vs : List V} (r : RelV ι S h v (.tup vs)) (k : (V.tup vs).key = true) : ∃ a as, v = .ref a ∧ vs = as.map atv ∧ IsTupleKey (atomKind prog w) h as a :=
 r.tupI (P := fun v => ∃ a as, v = .ref a ∧ vs = as.map atv ∧ IsTupleKey (atomKind prog w) h as a) fun a us p _ _ rs => (atoms_of_rel prog w rs k).elim fun as q => p.elim fun n e => ⟨a, as, rfl, q.1, _, _, n, e, rfl, rfl, q.2⟩
theorem entry_eq {K : Type} [DecidableEq K] {knd : HeapKind prog w K} {e : DictEntry} {k : K} {a : Addr} (h1 : e.hash = knd.hash k) (h2 : e.key = .ref a) : e = entryOfKey knd (k, a, e.val) := by
 cases e; cases h1; cases h2; rfl
theorem tup_of {k : V} (h : k.isTup = true) : ∃ vs, k = .tup vs := by
 cases k with
 | tup vs => exact ⟨vs, rfl⟩
 | _ => exact ff h
theorem RelE.tups {es : List DictEntry} {kvs : List (V × V)} (r : RelE prog w ι S h es kvs) : (∀ e ∈ kvs, e.1.isTup = true) →
  ∃ xs : List (List (Int ⊕ Str) × Addr × Value), es = xs.map (entryOfKey (tupleKind (atomKind prog w))) ∧ (∀ x ∈ xs, (tupleKind (atomKind prog w)).is h x.1 x.2.1) ∧ kvs.map (·.1) = xs.map fun x => V.tup (x.1.map atv) := by
 induction r with
 | nil => exact fun _ => ⟨[], rfl, List.forall_mem_nil _, rfl⟩
 | cons r1 b c _ _ ih =>
  intro z
  obtain ⟨xs, rfl, h1, h2⟩ := ih fun e he => z e (.tail _ he)
  obtain ⟨vs, rfl⟩ := tup_of (z _ (.head _))
  obtain ⟨a, as, ek, rfl, hk⟩ := tupKey_of prog w r1 b
  exact ⟨(as, a, _) :: xs, congrArg (· :: _) (entry_eq (c.trans (hashV_tup as)) ek), List.forall_mem_cons.mpr ⟨hk, h1⟩, congrArg (_ :: ·) h2⟩
end
section
variable {prog : Program} {w : World} {ι : Own} {S : List Addr} {A : Around} {E : Value → Shared → Prop} {s : Shared}
theorem hash_V {v : Value} {k : V} {Q : Int → Shared → Prop} (hu : A.units < cLine) (r : RelV ι S s.heap v k) (hk : k.key = true) (hq : ∀ tk, Q (hashV prog w k) { s with toks := tk }) : wpAny (model prog w) A (pyHash v) Q E s := by
 cases k with
 | int i => exact r.intI (P := fun v => wpAny _ _ (pyHash v) _ _ _) fun t => wpAny_pyHash_int (hq _)
 | str x => exact r.strI (P := fun v => wpAny _ _ (pyHash v) _ _ _) fun t => wpAny_pyHash_str (hq _)
 | tup vs =>
  obtain ⟨a, as, rfl, rfl, q⟩ := tupKey_of prog w r hk
  exact wpAny_pyHash_tuple hu q ((congrArg (Q · _) (hashV_tup as)).mp (hq _))
 | _ => exact ff hk
noncomputable def DObj (h : Heap) (d : Addr) (es : List DictEntry) : Prop := ∃ ep, h.get? d = some { cls := .type "dict", dict := none, data := .dict es.toArray ep, slots := #[] }
theorem idx_nodup {α : Type} [DecidableEq α] {l : List α} {k : α} {j : Nat} (hn : l.Nodup) (h : l[j]? = some k) {p : α → Bool} (hp : ∀ x, p x = true ↔ x = k) : l.findIdx? p = some j := by
 obtain ⟨hl, he⟩ := List.getElem?_eq_some_iff.mp h
 refine List.findIdx?_eq_some_iff_getElem.mpr ⟨hl, (hp _).mpr he, fun i hi q => ?_⟩
 exact Nat.ne_of_lt hi ((List.getElem?_inj (Nat.lt_trans hi hl) hn).mp ((List.getElem?_eq_getElem (Nat.lt_trans hi hl)).trans ((congrArg some ((hp _).mp q)).trans h.symm)))
theorem find_V {d : Addr} {es : List DictEntry} {kvs : List (V × V)} {v : Value} {k : V} {Q : Option Nat → Shared → Prop} (hu : A.units < cLine) (ho : DObj s.heap d es) (re : RelE prog w ι S s.heap es kvs) (hn : (kvs.map (·.1)).Nodup)
  (r : RelV ι S s.heap v k) (hk : okKey kvs k = true) (hq : Q (kvs.findIdx? fun e => V.beq e.1 k) s) : wpAny (model prog w) A (dictFind d v (hashV prog w k)) Q E s := by
 obtain ⟨ep, ho⟩ := ho
 have hz : ∀ e ∈ kvs, e.1.isTup = k.isTup := fun e he => beq_iff_eq.mp (List.all_eq_true.mp (Bool.and_eq_true_iff.mp hk).2 e he)
 have hk := (Bool.and_eq_true_iff.mp hk).1
 cases ht : k.isTup with
 | false =>
  obtain ⟨a, rfl, hi⟩ := atom_of_rel r (key_atom ht hk)
  have z := re.atoms (a := a) fun e he => (hz e he).trans ht
  rw [hashV_atom]
  exact wpAny_dictFind_of (knd := atomKind prog w) hi ho rfl (fun e he => z.1 e (List.mem_toArray.mp he)) (by rw [List.findIdx?_toArray, z.2]; exact hq)
 | true =>
  obtain ⟨vs, rfl⟩ := tup_of ht
  obtain ⟨a, as, rfl, rfl, hi⟩ := tupKey_of prog w r hk
  obtain ⟨xs, rfl, h1, h2⟩ := re.tups fun e he => (hz e he).trans ht
  have e0 : (kvs.findIdx? fun e => V.beq e.1 (.tup (as.map atv))) = xs.findIdx? fun x => V.beq (.tup (x.1.map atv)) (.tup (as.map atv)) :=
   (List.findIdx?_map (p := fun x => V.beq x (.tup (as.map atv))) (f := Prod.fst)).symm.trans ((congrArg (List.findIdx? _) h2).trans List.findIdx?_map)
  have hp : ∀ x : List (Int ⊕ Str), V.beq (.tup (x.map atv)) (.tup (as.map atv)) = true ↔ x = as := fun x => (V.beq_iff _ _).trans ⟨fun e => atvs_inj (V.tup.inj e), fun e => e ▸ rfl⟩
  have hnx : (xs.map (·.1)).Nodup := nodup_of_map (fun x : List (Int ⊕ Str) => V.tup (x.map atv)) (by rw [List.map_map]; exact h2 ▸ hn)
  rw [e0] at hq
  rw [hashV_tup]
  refine wpAny_dictFind_heap (knd := tupleKind (atomKind prog w)) (xs := xs) hu hi ho rfl rfl h1 hnx (fun hno => ?_) fun j p hj => ?_
  ·rw [List.findIdx?_eq_none_iff.mpr] at hq
   ·exact hq
   ·intro x hx
    obtain ⟨j, hj⟩ := List.mem_iff_getElem?.mp hx
    exact Bool.eq_false_iff.mpr fun q => hno j x.2 (hj.trans (congrArg (fun z => some (z, x.2)) ((hp _).mp q)))
  ·have e1 : (xs.findIdx? fun x => V.beq (.tup (x.1.map atv)) (.tup (as.map atv))) = some j := (List.findIdx?_map (f := Prod.fst) (l := xs) (p := fun x : List (Int ⊕ Str) => V.beq (.tup (x.map atv)) (.tup (as.map atv)))).symm.trans (idx_nodup (l := xs.map (·.1)) hnx (by rw [List.getElem?_map, hj]; rfl) (p := fun x => V.beq (.tup (x.map atv)) (.tup (as.map atv))) hp)
   rw [e1] at hq
   exact hq
end
end Mine
set_option tactic.hygienic true
set_option tactic.hygienic false
namespace Mine
open PySem.W (Frag nsIn instObj dictOf InstAt)
structure Cx where
 prog : Program
 w : World
 K : Frag
 base : Heap
 os : OsState
 gens : Array GenState
 /-- where the classes stand -/
 cls : Str → Option Addr
section
variable (c : Cx)
inductive RelF (ι : Own) (S : List Addr) (h : Heap) : List DictEntry → List (Str × V) → Prop
 | nil : RelF ι S h [] []
 | cons {hs : Int} {t : Tok} {v : Value} {x : Str} {y : V} {es : List DictEntry} {fs : List (Str × V)} : RelV ι S h v y → RelF ι S h es fs → RelF ι S h (⟨hs, .str x t, v⟩ :: es) ((x, y) :: fs)
inductive ObjRel (ι : Own) (S : List Addr) (h : Heap) : Addr × Option Addr → O → Prop
 | lst {a : Addr} {items : List Value} {vs : List V} : PL h a items → RelVs ι S h items vs → ObjRel ι S h (a, none) (.lst vs)
 | dict {a : Addr} {es : List DictEntry} {kvs : List (V × V)} : DObj h a es → RelE c.prog c.w ι S h es kvs → (kvs.map (·.1)).Nodup → ObjRel ι S h (a, none) (.dict kvs)
 | inst {a d Ca : Addr} {C : Str} {es : List DictEntry} {n : Nat} {fs : List (Str × V)} : h.get? a = some (instObj Ca d) → c.cls C = some Ca → h.get? d = some (dictOf es n) → RelF ι S h es fs → ObjRel ι S h (a, some d) (.inst C fs)
end
section
variable {ι ι' : Own} {S S' X : List Addr} {h h' : Heap}
theorem RelF.mv (M : Mv ι S h ι' S' h') {es : List DictEntry} {fs : List (Str × V)} (r : RelF ι S h es fs) : RelF ι' S' h' es fs :=
 RelF.rec (motive := fun es fs _ => RelF ι' S' h' es fs) .nil (fun a _ r => .cons (a.mv M) r) r
theorem RelF.mono (E : Ext X ι h ι' h') (s : ∀ x ∈ X, x ∈ S) {es : List DictEntry} {fs : List (Str × V)} (r : RelF ι S h es fs) : RelF ι' S h' es fs := r.mv (.mono E s)
/-- the objects of one entry of the memory stand as they stood; the rest may have moved by E -/
theorem ObjRel.mv {c : Cx} {p : Addr × Option Addr} {o : O} (M : Mv ι S h ι' S' h') (k : ∀ a ∈ p.1 :: p.2.toList, ∀ ob, h.get? a = some ob → h'.get? a = some ob) (r : ObjRel c ι S h p o) : ObjRel c ι' S' h' p o := by
 cases r with
 | lst p r => exact .lst (p.at (k _ (.head _))) (r.mv M)
 | dict p r n => exact .dict (p.elim fun ep e => ⟨ep, k _ (.head _) _ e⟩) (r.mv M) n
 | inst a b d r => exact .inst (k _ (.head _) _ a) b (k _ (.tail _ (.head _)) _ d) (r.mv M)
theorem ObjRel.mono {c : Cx} {p : Addr × Option Addr} {o : O} (E : Ext X ι h ι' h') (s : ∀ x ∈ X, x ∈ S) (k : ∀ a ∈ p.1 :: p.2.toList, ∀ ob, h.get? a = some ob → h'.get? a = some ob) (r : ObjRel c ι S h p o) : ObjRel c ι' S h' p o := r.mv (.mono E s) k
theorem ObjRel.sub {c : Cx} {p : Addr × Option Addr} {o : O} (s : ∀ x ∈ S', x ∈ S) (r : ObjRel c ι S h p o) : ObjRel c ι S' h p o := r.mv (.sub s) fun _ _ _ e => e
theorem ObjRel.add {c : Cx} {p : Addr × Option Addr} {o : O} (T : List Addr) (t : ∀ x ∈ T, h.get? x = none) (r : ObjRel c ι S h p o) : ObjRel c ι (T ++ S) h p o := r.mv (.add T t) fun _ _ _ e => e
theorem ObjRel.alive {c : Cx} {p : Addr × Option Addr} {o : O} (r : ObjRel c ι S h p o) : ∀ a ∈ p.1 :: p.2.toList, h.get? a ≠ none := by
 cases r with
 | lst p r => intro a ha; simp at ha; subst ha; exact p.live
 | dict p r n => intro a ha; simp at ha; subst ha; obtain ⟨_, e⟩ := p; rw [e]; simp
 | inst a b d r =>
  intro x hx
  simp at hx
  rcases hx with rfl | rfl
  ·rw [a]; simp
  ·rw [d]; simp
end
structure Rel (c : Cx) (ι : Own) (S : List Addr) (μ : Mem) (s : Shared) : Prop where
 len : ι.length = μ.length
 objs : ∀ (n : Nat) (p : Addr × Option Addr) (o : O), ι[n]? = some p → μ[n]? = some o → ObjRel c ι S s.heap p o
 nodup : (owned ι).Nodup
 disj : ∀ a ∈ S, a ∉ owned ι
 bound : ∀ a ∈ S, s.heap.get? a ≠ none
 new : ∀ a ∈ owned ι, c.base.get? a = none
 newS : ∀ a ∈ S, c.base.get? a = none
 keep : ∀ b o, c.base.get? b = some o → s.heap.get? b = some o
 os : s.os = c.os
 gens : s.gens = c.gens
theorem mem_owned {ι : Own} {n : Nat} {p : Addr × Option Addr} (e : ι[n]? = some p) : ∀ a ∈ p.1 :: p.2.toList, a ∈ owned ι := fun a ha => by
 unfold owned
 exact List.mem_flatMap.mpr ⟨p, List.mem_of_getElem? e, ha⟩
theorem Rel.alive {c : Cx} {ι : Own} {S : List Addr} {μ : Mem} {s : Shared} (r : Rel c ι S μ s) : ∀ a ∈ owned ι, s.heap.get? a ≠ none := fun a ha => by
 obtain ⟨p, hp, hap⟩ := List.mem_flatMap.mp ha
 obtain ⟨n, hn⟩ := List.mem_iff_getElem?.mp hp
 have hl : n < μ.length := r.len ▸ (List.getElem?_eq_some_iff.mp hn).1
 exact (r.objs n p _ hn (List.getElem?_eq_getElem hl)).alive a hap
theorem nodup_apart : ∀ {ι : Own} {n m : Nat} {p q : Addr × Option Addr}, (owned ι).Nodup → ι[n]? = some p → ι[m]? = some q → n ≠ m → ∀ a ∈ p.1 :: p.2.toList, a ∉ q.1 :: q.2.toList
 | [], n, m, p, q, _, e, _, _ => by simp at e
 | x :: r, n, m, p, q, hn, e1, e2, hne => by
  unfold owned at hn
  rw [List.flatMap_cons, List.nodup_append] at hn
  obtain ⟨_, h2, h3⟩ := hn
  cases n with
  | zero =>
   cases m with
   | zero => exact absurd rfl hne
   | succ m =>
    simp at e1 e2
    subst e1
    intro a ha hb
    exact h3 a ha a (mem_owned (ι := r) e2 a hb) rfl
  | succ n =>
   cases m with
   | zero =>
    simp at e1 e2
    subst e2
    intro a ha hb
    exact h3 a hb a (mem_owned (ι := r) e1 a ha) rfl
   | succ m =>
    simp at e1 e2
    exact nodup_apart h2 e1 e2 (by lia)
/-- all that stood stands: the memory as it was -/
theorem Rel.keeps {c : Cx} {ι : Own} {S : List Addr} {μ : Mem} {s s' : Shared} (r : Rel c ι S μ s) (k : ∀ b o, s.heap.get? b = some o → s'.heap.get? b = some o) (o : s'.os = s.os) (g : s'.gens = s.gens) : Rel c ι S μ s' :=
 ⟨r.len, fun n p o a b => (r.objs n p o a b).mono (X := []) (Ext.of_keeps k) (fun _ h => nomatch h) fun x _ ob e => k x ob e, r.nodup, r.disj, fun a ha e => r.bound a ha (none_of_keeps k a e), r.new, r.newS, fun b o e => k b o (r.keep b o e), o.trans r.os, g.trans r.gens⟩
/-- a private thing has changed -/
theorem Rel.private {c : Cx} {ι : Own} {S : List Addr} {μ : Mem} {s s' : Shared} (r : Rel c ι S μ s) (k : ∀ b o, b ∉ S → s.heap.get? b = some o → s'.heap.get? b = some o) (z : ∀ a, s'.heap.get? a = none → s.heap.get? a = none) (o : s'.os = s.os) (g : s'.gens = s.gens) : Rel c ι S μ s' := by
 have E : Ext S ι s.heap ι s'.heap := ⟨⟨[], by simp⟩, fun b o _ n e => k b o n e, fun _ h => .inl h, z⟩
 refine ⟨r.len, fun n p o a b => (r.objs n p o a b).mono E (fun _ h => h) fun x hx ob e => k x ob (fun q => r.disj x q (mem_owned a x hx)) e, r.nodup, r.disj, fun a ha e => r.bound a ha (z a e), r.new, r.newS, fun b o e => k b o (fun q => ?_) (r.keep b o e), o.trans r.os, g.trans r.gens⟩
 have := r.newS b q
 rw [this] at e; cases e
/-- one entry of the memory is another object now -/
theorem Rel.set {c : Cx} {ι : Own} {S : List Addr} {μ : Mem} {s s' : Shared} (r : Rel c ι S μ s) {n : Nat} {p : Addr × Option Addr} {o : O} (hn : ι[n]? = some p)
  (k : ∀ b ob, b ∉ p.1 :: p.2.toList → s.heap.get? b = some ob → s'.heap.get? b = some ob) (z : ∀ a, s'.heap.get? a = none → s.heap.get? a = none) (hos : s'.os = s.os) (hg : s'.gens = s.gens)
  (ho : Ext [] ι s.heap ι s'.heap → ObjRel c ι S s'.heap p o) : Rel c ι S (μ.set n o) s' ∧ Ext [] ι s.heap ι s'.heap := by
 have E : Ext [] ι s.heap ι s'.heap := ⟨⟨[], by simp⟩, fun b ob h1 _ e => k b ob (fun q => h1 (mem_owned hn b q)) e, fun _ h => .inl h, z⟩
 refine ⟨⟨by rw [List.length_set]; exact r.len, fun m q oq a b => ?_, r.nodup, r.disj, fun a ha e => r.bound a ha (z a e), r.new, r.newS, fun b ob e => k b ob (fun q => ?_) (r.keep b ob e), hos.trans r.os, hg.trans r.gens⟩, E⟩
 ·by_cases hm : n = m
  ·subst hm
   have hl : n < μ.length := r.len ▸ (List.getElem?_eq_some_iff.mp hn).1
   rw [List.getElem?_set_self hl] at b
   cases b
   rw [hn] at a
   cases a
   exact ho E
  ·rw [List.getElem?_set_ne hm] at b
   exact (r.objs m q oq a b).mono E (fun _ h => nomatch h) fun x hx ob e => k x ob (nodup_apart r.nodup a hn (fun q => hm q.symm) x hx) e
 ·have := r.new b (mem_owned hn b q)
  rw [this] at e; cases e
theorem owned_snoc (ι : Own) (p : Addr × Option Addr) : owned (ι ++ [p]) = owned ι ++ (p.1 :: p.2.toList) := by unfold owned; simp
/-- a new entry of the memory -/
theorem Rel.alloc {c : Cx} {ι : Own} {S : List Addr} {μ : Mem} {s s' : Shared} (r : Rel c ι S μ s) {p : Addr × Option Addr} {o : O}
  (k : ∀ b ob, s.heap.get? b = some ob → s'.heap.get? b = some ob) (hos : s'.os = s.os) (hg : s'.gens = s.gens)
  (hp : ∀ a ∈ p.1 :: p.2.toList, s.heap.get? a = none) (hpn : (p.1 :: p.2.toList).Nodup) (ho : Ext [] ι s.heap (ι ++ [p]) s'.heap → ObjRel c (ι ++ [p]) S s'.heap p o) : Rel c (ι ++ [p]) S (μ ++ [o]) s' ∧ Ext [] ι s.heap (ι ++ [p]) s'.heap := by
 have E : Ext [] ι s.heap (ι ++ [p]) s'.heap := ⟨⟨[p], rfl⟩, fun b ob _ _ e => k b ob e, fun a ha => by
  rw [owned_snoc] at ha
  exact (List.mem_append.mp ha).imp id (hp a), none_of_keeps k⟩
 refine ⟨⟨by simp [r.len], fun m q oq a b => ?_, ?_, fun a ha => ?_, fun a ha e => r.bound a ha (none_of_keeps k a e), fun a ha => ?_, r.newS, fun b ob e => k b ob (r.keep b ob e), hos.trans r.os, hg.trans r.gens⟩, E⟩
 ·by_cases hm : m < ι.length
  ·rw [List.getElem?_append_left hm] at a
   rw [List.getElem?_append_left (r.len ▸ hm)] at b
   exact (r.objs m q oq a b).mono E (fun _ h => nomatch h) fun x hx ob e => k x ob e
  ·have hm' : m = ι.length := by
    have := (List.getElem?_eq_some_iff.mp a).1
    simp at this; lia
   subst hm'
   rw [List.getElem?_append_right (Nat.le_refl _)] at a
   rw [r.len, List.getElem?_append_right (Nat.le_refl _)] at b
   simp at a b
   subst a b
   exact ho E
 ·rw [owned_snoc, List.nodup_append]
  exact ⟨r.nodup, hpn, fun a ha b hb e => r.alive a ha (e ▸ hp b hb)⟩
 ·rw [owned_snoc]
  intro q
  rcases List.mem_append.mp q with q | q
  ·exact r.disj a ha q
  ·exact r.bound a ha (hp a q)
 ·rw [owned_snoc] at ha
  rcases List.mem_append.mp ha with q | q
  ·exact r.new a q
  ·cases e : c.base.get? a with
   | none => rfl
   | some ob => have := hp a q; rw [r.keep a ob e] at this; cases this
/-- private things new -/
theorem Rel.addS {c : Cx} {ι : Own} {S : List Addr} {μ : Mem} {s s' : Shared} (r : Rel c ι S μ s) (T : List Addr) (t : ∀ x ∈ T, s.heap.get? x = none) (t' : ∀ x ∈ T, s'.heap.get? x ≠ none)
  (k : ∀ b o, s.heap.get? b = some o → s'.heap.get? b = some o) (o : s'.os = s.os) (g : s'.gens = s.gens) : Rel c ι (T ++ S) μ s' := by
 have E : Ext [] ι s.heap ι s'.heap := Ext.of_keeps k
 refine ⟨r.len, fun n p o a b => ((r.objs n p o a b).add T t).mono E (fun _ h => nomatch h) fun x _ ob e => k x ob e, r.nodup, fun a ha q => ?_, fun a ha => ?_, r.new, fun a ha => ?_, fun b o e => k b o (r.keep b o e), o.trans r.os, g.trans r.gens⟩
 ·rcases List.mem_append.mp ha with h | h
  ·exact r.alive a q (t a h)
  ·exact r.disj a h q
 ·rcases List.mem_append.mp ha with h | h
  ·exact t' a h
  ·exact fun e => r.bound a h (none_of_keeps k a e)
 ·rcases List.mem_append.mp ha with h | h
  ·cases e : c.base.get? a with
   | none => rfl
   | some ob => have := t a h; rw [r.keep a ob e] at this; cases this
  ·exact r.newS a h
theorem live_but {a : Addr} {h h' : Heap} {o : Obj} (hs : Heap.SameBut a h h') (e : h'.get? a = some o) (b : Addr) (q : h'.get? b = none) : h.get? b = none := by
 by_cases hb : b = a
 ·subst hb; rw [e] at q; cases q
 ·rw [← hs.2 b hb]; exact q
theorem get_size (h : Heap) : h.get? h.objs.size = none := by
 cases e : h.get? h.objs.size with
 | none => rfl
 | some o => exact absurd (Heap.lt_size e) (Nat.lt_irrefl _)
theorem Rel.subS {c : Cx} {ι : Own} {S S' : List Addr} {μ : Mem} {s : Shared} (r : Rel c ι S μ s) (q : ∀ x ∈ S', x ∈ S) : Rel c ι S' μ s :=
 ⟨r.len, fun n p o a b => (r.objs n p o a b).sub q, r.nodup, fun a ha => r.disj a (q a ha), fun a ha => r.bound a (q a ha), r.new, fun a ha => r.newS a (q a ha), r.keep, r.os, r.gens⟩
end Mine
set_option tactic.hygienic true
set_option tactic.hygienic false
namespace Mine
open PySem.W (Frag nsIn instObj dictOf InstAt)
theorem lookup_put {α : Type} : ∀ (l : List (Str × α)) (x : Str) (v : α) (y : Str), (put l x v).lookup y = if y = x then some v else l.lookup y
 | [], x, v, y => by
  unfold put
  by_cases h : y = x
  ·subst h; simp
  ·have : (y == x) = false := by simpa using h
   simp [h, List.lookup_cons, this]
 | (z, w) :: r, x, v, y => by
  unfold put
  by_cases hx : x = z
  ·subst hx
   rw [if_pos rfl]
   by_cases h : y = x
   ·subst h; simp
   ·have : (y == x) = false := by simpa using h
    simp [h, List.lookup_cons, this]
  ·rw [if_neg hx]
   by_cases h : y = z
   ·subst h
    have : ¬ y = x := fun e => hx e.symm
    simp [this]
   ·have e : (y == z) = false := by simpa using h
    rw [List.lookup_cons, e, List.lookup_cons, e]
    exact lookup_put r x v y
/-- the frame's own things -/
noncomputable def ownA (env : Env) (h : Here) : List Addr := env.locals :: (env.cells.filter fun p => h.sc.names.lookup p.1 == some NameKind.cell).map (·.2)
structure EnvR (env : Env) (h : Here) (ι : Own) (S : List Addr) (ρ : Loc) (hp : Heap) : Prop where
 kind : env.scope.kind = .function
 glob : env.globals = mainGlobals
 blt : env.builtins = builtinsNs
 kl : ∀ x, isLoc h.sc x = true → env.kindOf x = some .local ∨ env.kindOf x = some .cell ∨ (env.kindOf x = some .free ∧ (x == ("__classdict__" : Str)) = false)
 ko : ∀ x, isOwn h.sc x = true → env.kindOf x = some .local ∨ (env.kindOf x = some .cell ∧ h.sc.names.lookup x = some .cell)
 kg : ∀ x, isGlob h.sc x = true → env.kindOf x = some .globalImplicit
 kc : ∀ x, isLoc h.sc x = true → h.sc.names.lookup x ≠ some .local → env.kindOf x ≠ some .local
 ns : ∃ m, hp.Ns env.locals m ∧ ∀ x v, env.kindOf x = some .local → ρ.lookup x = some v → ∃ u, m x = some u ∧ RelV ι S hp u v
 cell : ∀ x, isLoc h.sc x = true → env.kindOf x ≠ some .local → ∃ cl v₀, env.cells.lookup x = some cl ∧ hp.IsCell cl v₀ ∧ cl ∈ S ∧ ∀ v, ρ.lookup x = some v → ∃ u, v₀ = some u ∧ RelV ι S hp u v
 inS : ∀ a ∈ ownA env h, a ∈ S
 apart : ∀ x y cl, env.cells.lookup x = some cl → env.cells.lookup y = some cl → x = y
 apartL : ∀ x cl, env.cells.lookup x = some cl → cl ≠ env.locals
 /-- nothing but names of the table has a value -/
 dom : ∀ x v, ρ.lookup x = some v → isLoc h.sc x = true
/-- all but X stays as it stood -/
structure Kept (X : List Addr) (h h' : Heap) : Prop where
 keep : ∀ b o, b ∉ X → h.get? b = some o → h'.get? b = some o
 live : ∀ a, h'.get? a = none → h.get? a = none
theorem Kept.ext {X : List Addr} {ι : Own} {h h' : Heap} (k : Kept X h h') : Ext X ι h ι h' := ⟨⟨[], by simp⟩, fun b o _ n e => k.keep b o n e, fun _ a => .inl a, k.live⟩
theorem Kept.of_keeps {X : List Addr} {h h' : Heap} (k : ∀ b o, h.get? b = some o → h'.get? b = some o) : Kept X h h' := ⟨fun b o _ e => k b o e, none_of_keeps k⟩
theorem Kept.trans {X : List Addr} {h h' h'' : Heap} (a : Kept X h h') (b : Kept X h' h'') : Kept X h h'' := ⟨fun c o n e => b.keep c o n (a.keep c o n e), fun c e => a.live c (b.live c e)⟩
theorem EnvR.mv {env : Env} {h : Here} {ι ι' : Own} {S S' : List Addr} {ρ : Loc} {hp hp' : Heap} (r : EnvR env h ι S ρ hp) (M : Mv ι S hp ι' S' hp') (hI : ∀ a ∈ ownA env h, a ∈ S') (hL : ∀ o, hp.get? env.locals = some o → hp'.get? env.locals = some o)
  (hC : ∀ x cl, isLoc h.sc x = true → env.kindOf x ≠ some .local → env.cells.lookup x = some cl → cl ∈ S → cl ∈ S' ∧ ∀ o, hp.get? cl = some o → hp'.get? cl = some o) : EnvR env h ι' S' ρ hp' :=
 ⟨r.kind, r.glob, r.blt, r.kl, r.ko, r.kg, r.kc, r.ns.elim fun m z => ⟨m, z.1.elim fun o z => z.elim fun es z => z.elim fun ep z => ⟨o, es, ep, hL _ z.1, z.2⟩, fun x v hk hv => (z.2 x v hk hv).elim fun u z => ⟨u, z.1, z.2.mv M⟩⟩,
  fun x hx hn => (r.cell x hx hn).elim fun cl z => z.elim fun v₀ z => ⟨cl, v₀, z.1, z.2.1.elim fun o y => ⟨o, (hC x cl hx hn z.1 z.2.2.1).2 o y.1, y.2⟩, (hC x cl hx hn z.1 z.2.2.1).1, fun v hv => (z.2.2.2 v hv).elim fun u z => ⟨u, z.1, z.2.mv M⟩⟩, hI, r.apart, r.apartL, r.dom⟩
theorem EnvR.mono {env : Env} {h : Here} {ι ι' : Own} {S : List Addr} {ρ : Loc} {hp hp' : Heap} {c : Cx} {μ : Mem} {s : Shared} (R : Rel c ι S μ s) (e : s.heap = hp) (E : Ext [] ι hp ι' hp') (r : EnvR env h ι S ρ hp) : EnvR env h ι' S ρ hp' := by
 subst e
 have keep : ∀ b ∈ S, ∀ o, s.heap.get? b = some o → hp'.get? b = some o := fun b hb o q => E.keep b o (R.disj b hb) nofun q
 exact r.mv (.mono E nofun) r.inS (keep _ (r.inS _ (.head _))) fun x cl _ _ _ hS => ⟨hS, keep cl hS⟩
section
variable {c : Cx} {A : Around} {E : Value → Shared → Prop} {s : Shared} {env : Env} {h : Here} {ι : Own} {S : List Addr} {ρ : Loc} {μ : Mem}
theorem load_V {M : Model} {x : Str} {v : V} {Q : Value → Shared → Prop} (r : EnvR env h ι S ρ s.heap) (hx : isLoc h.sc x = true) (hv : ρ.lookup x = some v) (hq : ∀ u, RelV ι S s.heap u v → Q u s) : wpAny M A (loadName env x) Q E s := by
 rcases r.kl x hx with hk | hk | ⟨hk, hd⟩
 ·obtain ⟨m, hn, hm⟩ := r.ns
  obtain ⟨u, h1, h2⟩ := hm x v hk hv
  exact wpAny_loadName_local r.kind hk hn h1 (hq u h2)
 ·obtain ⟨cl, v₀, h1, h2, _, h4⟩ := r.cell x hx (by rw [hk]; simp)
  obtain ⟨u, rfl, b⟩ := h4 v hv
  exact wpAny_loadName_cell r.kind hk h1 h2 (hq u b)
 ·obtain ⟨cl, v₀, h1, h2, _, h4⟩ := r.cell x hx (by rw [hk]; simp)
  obtain ⟨u, rfl, b⟩ := h4 v hv
  exact wpAny_loadName_free r.kind hk h1 h2 (hq u b) hd
theorem own_loc {sc : Scope} {x : Str} (e : isOwn sc x = true) : isLoc sc x = true := by
 unfold isOwn at e
 unfold isLoc
 split at e
 ·cases e
 ·rename_i h
  rw [if_neg h]
  split at e
  ·rename_i q; rw [q]
  ·rename_i q; rw [q]
  ·cases e
theorem store_V {M : Model} {x : Str} {u : Value} {v : V} {Q : Unit → Shared → Prop} (r : EnvR env h ι S ρ s.heap) (R : Rel c ι S μ s) (hx : isOwn h.sc x = true) (rv : RelV ι S s.heap u v)
  (hq : ∀ s', Kept (ownA env h) s.heap s'.heap → Rel c ι S μ s' → EnvR env h ι S (put ρ x v) s'.heap → Q () s') : wpAny M A (storeName env x u) Q E s := by
 have hl := own_loc hx
 have hloc : (env.scope.kind == .class || (env.scope.kind == .module && env.locals != env.globals)) = false := by rw [r.kind]; rfl
 have dom : ∀ y w, (put ρ x v).lookup y = some w → isLoc h.sc y = true := fun y w e => by
  rw [lookup_put] at e
  by_cases q : y = x
  ·subst q; exact hl
  ·rw [if_neg q] at e; exact r.dom y w e
 rcases r.ko x hx with hk | ⟨hk, hkc⟩
 ·obtain ⟨m, hn, hm⟩ := r.ns
  refine wpAny_storeName_local hk hn (fun h' hn' hs => ?_) hloc
  have inX : env.locals ∈ ownA env h := .head _
  have lv := let ⟨_, _, _, e, _⟩ := hn'; live_but hs e
  have X0 : Kept (ownA env h) s.heap h' := ⟨fun b o n e => (hs.2 b (fun q => n (q ▸ inX))).trans e, lv⟩
  have X : Ext (ownA env h) ι s.heap ι h' := X0.ext
  refine hq { s with heap := h', toks := s.toks + 1 } X0 (R.private (fun b o n e => (hs.2 b (fun q => n (q ▸ r.inS _ inX))).trans e) lv rfl rfl) ?_
  refine ⟨r.kind, r.glob, r.blt, r.kl, r.ko, r.kg, r.kc, ⟨_, hn', fun y w hky hy => ?_⟩, fun y hy hne => ?_, r.inS, r.apart, r.apartL, dom⟩
  ·rw [lookup_put] at hy
   by_cases q : y = x
   ·subst q
    rw [if_pos rfl] at hy
    cases hy
    exact ⟨u, if_pos rfl, rv.mono X r.inS⟩
   ·rw [if_neg q] at hy
    obtain ⟨w', a, b⟩ := hm y w hky hy
    exact ⟨w', by rw [if_neg q]; exact a, b.mono X r.inS⟩
  ·obtain ⟨cl, v₀, h1, h2, h3, h4⟩ := r.cell y hy hne
   refine ⟨cl, v₀, h1, h2.sameBut hs (r.apartL _ _ h1), h3, fun w hw => ?_⟩
   rw [lookup_put] at hw
   have q : y ≠ x := fun q => hne (q ▸ hk)
   rw [if_neg q] at hw
   obtain ⟨u', a, b⟩ := h4 w hw
   exact ⟨u', a, b.mono X r.inS⟩
 ·obtain ⟨cl, v₀, h1, h2, h3, h4⟩ := r.cell x hl (by rw [hk]; simp)
  refine wpAny_storeName_cell r.kind hk h1 h2 fun h' hc hs => ?_
  have lv := let ⟨_, e, _⟩ := hc; live_but hs e
  have inX : cl ∈ ownA env h := by
   refine .tail _ (List.mem_map.mpr ⟨(x, cl), List.mem_filter.mpr ⟨mem_of_lookup h1, ?_⟩, rfl⟩)
   simp [hkc]
  have X0 : Kept (ownA env h) s.heap h' := ⟨fun b o n e => (hs.2 b (fun q => n (q ▸ inX))).trans e, lv⟩
  have X : Ext (ownA env h) ι s.heap ι h' := X0.ext
  refine hq { s with heap := h' } X0 (R.private (fun b o n e => (hs.2 b (fun q => n (q ▸ h3))).trans e) lv rfl rfl) ?_
  refine ⟨r.kind, r.glob, r.blt, r.kl, r.ko, r.kg, r.kc, ?_, fun y hy hne => ?_, r.inS, r.apart, r.apartL, dom⟩
  ·obtain ⟨m, hn, hm⟩ := r.ns
   refine ⟨m, hn.sameBut hs (fun q => r.apartL _ _ h1 q.symm), fun y w hky hy => ?_⟩
   rw [lookup_put] at hy
   have q : y ≠ x := fun q => by subst q; rw [hk] at hky; simp at hky
   rw [if_neg q] at hy
   obtain ⟨w', a, b⟩ := hm y w hky hy
   exact ⟨w', a, b.mono X r.inS⟩
  ·by_cases q : y = x
   ·subst q
    refine ⟨cl, some u, h1, hc, h3, fun w hw => ?_⟩
    rw [lookup_put, if_pos rfl] at hw
    cases hw
    exact ⟨u, rfl, rv.mono X r.inS⟩
   ·obtain ⟨cy, vy, g1, g2, g3, g4⟩ := r.cell y hy hne
    have hcy : cy ≠ cl := fun z => q (r.apart y x cy g1 (by rw [z]; exact h1))
    refine ⟨cy, vy, g1, g2.sameBut hs hcy, g3, fun w hw => ?_⟩
    rw [lookup_put, if_neg q] at hw
    obtain ⟨u', a, b⟩ := g4 w hw
    exact ⟨u', a, b.mono X r.inS⟩
end
end Mine
set_option tactic.hygienic true
set_option tactic.hygienic false
namespace Mine
open PySem.W (Frag nsIn instObj dictOf InstAt)
open PyProof.Rows (add_int sub_int mul_int mod_int floordiv_int lt_int gt_int le_int)
abbrev PostV (c : Cx) (ι : Own) (S : List Addr) (h : Heap) (μ' : Mem) (x : V) (Q : Value → Shared → Prop) : Prop :=
 ∀ v ι' s', Ext [] ι h ι' s'.heap → Rel c ι' S μ' s' → RelV ι' S s'.heap v x → Q v s'
structure Room (A : Around) (n : Nat) : Prop where
 handled : A.handled = none
 depth : A.depth + n + 2 < recursionLimit
 units : A.units + 12 * n + 100 < cLine
theorem Room.le {A : Around} {n m : Nat} (r : Room A n) (h : m ≤ n) : Room A m := ⟨r.handled, by have := r.depth; lia, by have := r.units; lia⟩
theorem Room.u {A : Around} {n : Nat} (r : Room A n) : A.units < cLine := by have := r.units; lia
theorem Room.d {A : Around} {n : Nat} (r : Room A n) : A.depth < recursionLimit := by have := r.depth; lia
theorem limit_lt : limit < sizeLine := by decide
theorem limit_eq : limit = 1048576 := by decide
theorem sizeLine_val : sizeLine = 16777216 := by decide
theorem Around.mark_none (A : Around) : A.mark none = A := by cases A; rfl
section
variable {c : Cx} {A : Around} {E : Value → Shared → Prop} {s : Shared} {ι : Own} {S : List Addr} {μ μ' : Mem} {Q : Value → Shared → Prop} {x : V}
theorem PostV.now (hq : PostV c ι S s.heap μ x Q) (R : Rel c ι S μ s) {v : Value} (r : RelV ι S s.heap v x) (tk : Nat) : Q v { s with toks := tk } :=
 hq v ι _ (Ext.refl ..) (R.keeps (fun _ _ e => e) rfl rfl) r
theorem PostV.step {s₁ : Shared} {ι₁ : Own} (hq : PostV c ι S s.heap μ' x Q) (E : Ext [] ι s.heap ι₁ s₁.heap) : PostV c ι₁ S s₁.heap μ' x Q :=
 fun v ι' s' E' R r => hq v ι' s' (E.trans E') R r
theorem not_owned_size (R : Rel c ι S μ s) : s.heap.objs.size ∉ owned ι := fun q => R.alive _ q (get_size _)
theorem not_S_size (R : Rel c ι S μ s) : s.heap.objs.size ∉ S := fun q => R.bound _ q (get_size _)
theorem push_keeps (h : Heap) (o : Obj) : ∀ b ob, h.get? b = some ob → (h.push o).get? b = some ob := fun _ _ e => Heap.get?_push_of_some _ e
/-- a new list that nobody shall change -/
theorem PostV.newLst (hq : PostV c ι S s.heap μ (.lst xs) Q) (R : Rel c ι S μ s) {vs : List Value} (r : RelVs ι S s.heap vs xs) (tk : Nat) :
  Q (.ref s.heap.objs.size) { s with heap := s.heap.push { cls := .type "list", data := .seq vs.toArray }, toks := tk } := by
 have E : Ext [] ι s.heap ι (s.heap.push { cls := .type "list", data := .seq vs.toArray }) := Ext.of_keeps (push_keeps _ _)
 exact hq _ ι _ E (R.keeps (push_keeps _ _) rfl rfl) (.lst ⟨0, Heap.get?_push_size _ rfl⟩ (not_owned_size R) (not_S_size R) (r.mono E fun _ h => nomatch h))
theorem PostV.newTup (hq : PostV c ι S s.heap μ (.tup xs) Q) (R : Rel c ι S μ s) {vs : List Value} (r : RelVs ι S s.heap vs xs) (tk : Nat) :
  Q (.ref s.heap.objs.size) { s with heap := s.heap.push { cls := .type "tuple", data := .seq vs.toArray }, toks := tk } := by
 have E : Ext [] ι s.heap ι (s.heap.push { cls := .type "tuple", data := .seq vs.toArray }) := Ext.of_keeps (push_keeps _ _)
 exact hq _ ι _ E (R.keeps (push_keeps _ _) rfl rfl) (.tup ⟨0, Heap.get?_push_size _ rfl⟩ (not_owned_size R) (not_S_size R) (r.mono E fun _ h => nomatch h))
/-- a new list of the memory's -/
theorem PostV.newRef (hq : PostV c ι S s.heap (μ ++ [.lst xs]) (.ref μ.length) Q) (R : Rel c ι S μ s) {vs : List Value} (r : RelVs ι S s.heap vs xs) (tk : Nat) :
  Q (.ref s.heap.objs.size) { s with heap := s.heap.push { cls := .type "list", data := .seq vs.toArray }, toks := tk } := by
 obtain ⟨R', E'⟩ := R.alloc (s' := { s with heap := s.heap.push { cls := .type "list", data := .seq vs.toArray }, toks := tk }) (p := (s.heap.objs.size, none)) (o := .lst xs) (push_keeps _ _) rfl rfl
  (fun a ha => (List.mem_singleton.mp ha).symm ▸ get_size _) (List.nodup_cons.mpr ⟨List.not_mem_nil, List.nodup_nil⟩) (fun E => .lst ⟨0, Heap.get?_push_size _ rfl⟩ (r.mono E fun _ h => nomatch h))
 exact hq _ _ _ E' R' (.ref (d := none) (by rw [← R.len]; exact List.getElem?_concat_length))
theorem relVs_of_int {v : Value} {i : Int} (r : RelV ι S s.heap v (.int i)) : ∃ t, v = .int i t := r.is
noncomputable def WS {α : Type} (x : (α → Prop) → Prop) (Q : α → Prop) : Prop := x Q
theorem Rel.lstO {P : Prop} {n : Nat} {μ : Mem} {c : Cx} {s : Shared} {ι : Own} {S : List Addr} {a : Addr} {d : Option Addr} {xs : List V} (R : Rel c ι S μ s) (hn : ι[n]? = some (a, d)) (hm : μ[n]? = some (.lst xs)) (K : ∀ us, PL s.heap a us → RelVs ι S s.heap us xs → P) : P := by
 cases id (R.objs _ _ _ hn hm) with
 | lst p r => exact K _ p r
theorem Rel.dictO {P : Prop} {n : Nat} {μ : Mem} {c : Cx} {s : Shared} {ι : Own} {S : List Addr} {a : Addr} {d : Option Addr} {kvs : List (V × V)} (R : Rel c ι S μ s) (hn : ι[n]? = some (a, d)) (hm : μ[n]? = some (.dict kvs)) (K : ∀ es, DObj s.heap a es → RelE c.prog c.w ι S s.heap es kvs → (kvs.map (·.1)).Nodup → P) : P := by
 cases id (R.objs _ _ _ hn hm) with
 | dict p r nd => exact K _ p r nd
theorem Rel.lstI {k : Nat} {μ : Mem} {c : Cx} {s : Shared} {ι : Own} {S : List Addr} {v : Value} {xs : List V} {P : Value → Prop} (R : Rel c ι S μ s) (r : RelV ι S s.heap v (.ref k)) (hm : μ[k]? = some (.lst xs)) (K : ∀ a, ι[k]? = some (a, none) → P (.ref a)) : P v :=
 r.refI fun a d hn => by
  cases id (R.objs _ _ _ hn hm) with
  | lst _ _ => exact K a hn
theorem Rel.dictI {k : Nat} {μ : Mem} {c : Cx} {s : Shared} {ι : Own} {S : List Addr} {v : Value} {es : List (V × V)} {P : Value → Prop} (R : Rel c ι S μ s) (r : RelV ι S s.heap v (.ref k)) (hm : μ[k]? = some (.dict es)) (K : ∀ a, ι[k]? = some (a, none) → P (.ref a)) : P v :=
 r.refI fun a d hn => by
  cases id (R.objs _ _ _ hn hm) with
  | dict _ _ _ => exact K a hn
theorem of_lstAt {k : Nat} {xs : List V} (h : lstAt μ k = some xs) : μ[k]? = some (.lst xs) := by
 unfold lstAt at h
 cases q : μ[k]? with
 | none => rw [q] at h; exact nn h
 | some o =>
  rw [q] at h
  cases o with
  | lst vs => exact congrArg (fun z => some (O.lst z)) (Option.some.inj h)
  | _ => exact nn h
theorem lstAt_of {k : Nat} {xs : List V} (h : μ[k]? = some (.lst xs)) : lstAt μ k = some xs := congrArg (·.bind O.lst?) h
/-- the list that a value is -/
theorem list_of {v : Value} {xs : List V} (R : Rel c ι S μ s) (r : RelV ι S s.heap v x) (e : listOf x μ = some xs) : ∃ a vs, v = .ref a ∧ PL s.heap a vs ∧ RelVs ι S s.heap vs xs := by
 cases x with
 | lst ys => exact r.seqI (P := fun v => ∃ a vs, v = .ref a ∧ PL s.heap a vs ∧ RelVs ι S s.heap vs xs) fun a us p _ _ q => ⟨a, us, rfl, p, Option.some.inj e ▸ q⟩
 | ref k => exact r.refI (P := fun v => ∃ a vs, v = .ref a ∧ PL s.heap a vs ∧ RelVs ι S s.heap vs xs) fun a d hi => R.lstO hi (of_lstAt e) fun us p q => ⟨a, us, rfl, p, q⟩
 | _ => exact nn e
theorem small_lt {i : Int} (h : small i = true) : -(2 ^ 62) < i ∧ i < 2 ^ 62 := ⟨of_decide_eq_true (Bool.and_eq_true_iff.mp h).1, of_decide_eq_true (Bool.and_eq_true_iff.mp h).2⟩
end
end Mine
set_option tactic.hygienic true
set_option tactic.hygienic false
namespace Mine
open PySem.W (Frag nsIn instObj dictOf InstAt)
open PyProof.Rows (add_int sub_int mul_int mod_int floordiv_int lt_int gt_int le_int pow_int_small)
section
variable {c : Cx} {A : Around} {E : Value → Shared → Prop} {s : Shared} {ι : Own} {S : List Addr} {μ : Mem} {Q : Value → Shared → Prop} {x : V}
theorem natAbs_lt {i : Int} (h : small i = true) : i.natAbs < 2 ^ 62 := by have := small_lt h; lia
theorem two_fit {xs ys : List V} {vs ws : List Value} {h : Heap} (r : RelVs ι S h vs xs) (r' : RelVs ι S h ws ys) (hl : xs.length + ys.length < limit) : vs.toArray.size + ws.toArray.size ≤ sizeLine :=
 Nat.le_of_lt (Nat.lt_trans ((congr (congrArg (· + ·) r.length) r'.length).symm ▸ hl) limit_lt)
theorem add_lsts {xs ys : List V} {va vb : Value} (hl : xs.length + ys.length < limit) (R : Rel c ι S μ s) (ra : ∃ a vs, va = .ref a ∧ PL s.heap a vs ∧ RelVs ι S s.heap vs xs) (rb : ∃ a vs, vb = .ref a ∧ PL s.heap a vs ∧ RelVs ι S s.heap vs ys)
  (hq : PostV c ι S s.heap μ (.lst (xs ++ ys)) Q) : wpAny (model c.prog c.w) A (binaryOp .Add va vb) Q E s := by
 obtain ⟨a, vs, rfl, ⟨n, e⟩, r⟩ := ra
 obtain ⟨b, ws, rfl, ⟨n', e'⟩, r'⟩ := rb
 exact P.add_list e e' ((List.append_toArray vs ws).symm ▸ hq.newLst R (r.append r') _) (two_fit r r' hl)
theorem isEmpty_cons {α : Type} (a : α) (l : List α) : ¬ (a :: l).toArray.isEmpty = true := nofun
theorem add_tups {x : V} {xs ys : List V} {va vb : Value} (hl : (x :: xs).length + ys.length < limit) (R : Rel c ι S μ s) (ra : RelV ι S s.heap va (.tup (x :: xs))) (rb : RelV ι S s.heap vb (.tup ys))
  (hq : PostV c ι S s.heap μ (.tup (x :: xs ++ ys)) Q) : wpAny (model c.prog c.w) A (binaryOp .Add va vb) Q E s :=
 ra.tupI (P := fun z => RelV ι S s.heap z (.tup (x :: xs)) → wpAny _ _ (binaryOp _ z _) _ _ _) (fun a vs p n1 n2 r ra => rb.tupI (P := fun z => wpAny _ _ (binaryOp _ _ z) _ _ _) fun b ws p' n1' n2' r' => p.elim fun n e => p'.elim fun n' e' => by
  have hz := two_fit r r' hl
  cases r with | cons r1 rs =>
  cases r' with
  | nil => exact concat_meets ⟨_, e, rfl⟩ ⟨_, e', rfl⟩ noFill_tuple_add seq_tuple_add PySem.F.slot_tuple_add PySem.F.entry_tuple_add (PySem.F.args_tuple_add_2 _ _) (AutoSeq1.tuple___add___tuple_tuple_1 a _ n b _ n' (isEmpty_cons _ _) rfl) ⟨e, e', hq.now R ((List.append_nil (x :: xs)).symm ▸ ra) _⟩
  | cons r2 rs' => exact P.add_tuple e e' (isEmpty_cons _ _) (isEmpty_cons _ _) ((List.append_toArray _ _).symm ▸ hq.newTup R (.append (.cons r1 rs) (.cons r2 rs')) _) hz) ra
end
/-- an operation of two values -/
noncomputable def binop (op : Operator) (a b : V) (μ : Mem) (q : V → Prop) : Prop := ∀ ⦃c A E s ι S va vb Q⦄, Rel c ι S μ s → RelV ι S s.heap va a → RelV ι S s.heap vb b → (∀ x, q x → PostV c ι S s.heap μ x Q) → wpAny (model c.prog c.w) A (binaryOp op va vb) Q E s
section
variable {μ : Mem} {Q : V → Prop}
theorem bin_ints {op : Operator} {x y : Int} (H : ∀ ⦃c A E s ι S F⦄ t u, Rel c ι S μ s → (∀ x, Q x → PostV c ι S s.heap μ x F) → wpAny (model c.prog c.w) A (binaryOp op (.int x t) (.int y u)) F E s) : WS (binop op (.int x) (.int y) μ) Q := by
 intro c A E s ι S va vb F R ra rb K
 exact ra.intI (P := fun z => wpAny _ _ (binaryOp _ z _) _ _ _) fun t => rb.intI (P := fun z => wpAny _ _ (binaryOp _ _ z) _ _ _) fun u => H t u R K
theorem w_addI {x y : Int} (q : Q (.int (x + y))) : WS (binop .Add (.int x) (.int y) μ) Q := bin_ints fun _ _ _ _ _ _ _ _ _ R K => add_int ((K _ q).now R (.int _ _) _)
theorem w_subI {x y : Int} (q : Q (.int (x - y))) : WS (binop .Sub (.int x) (.int y) μ) Q := bin_ints fun _ _ _ _ _ _ _ _ _ R K => sub_int ((K _ q).now R (.int _ _) _)
theorem mul_ok {x y : Int} (h1 : x.natAbs < 2 ^ 62) (h2 : y.natAbs < 2 ^ 62) : IntMulOk x y := by unfold IntMulOk; mul_fits
theorem w_mulI {x y : Int} (hs : (small x && small y) = true) (q : Q (.int (x * y))) : WS (binop .Mult (.int x) (.int y) μ) Q := by
 rw [Bool.and_eq_true] at hs
 exact bin_ints fun _ _ _ _ _ _ _ _ _ R K => mul_int ((K _ q).now R (.int _ _) _) (mul_ok (natAbs_lt hs.1) (natAbs_lt hs.2))
theorem w_fdivI {x y : Int} (hs : (decide (0 < y) && decide (y < 1000000000)) = true) (q : Q (.int (x.fdiv y))) : WS (binop .FloorDiv (.int x) (.int y) μ) Q := by
 rw [Bool.and_eq_true, decide_eq_true_eq, decide_eq_true_eq] at hs
 exact bin_ints fun _ _ _ _ _ _ _ _ _ R K => floordiv_int (by lia) ((K _ q).now R (.int _ _) _) (.inl (PyProof.noPylong_small (by lia)))
theorem w_modI {x y : Int} (hs : 0 < y) (q : Q (.int (x.fmod y))) : WS (binop .Mod (.int x) (.int y) μ) Q := bin_ints fun _ _ _ _ _ _ _ _ _ R K => mod_int (by lia) ((K _ q).now R (.int _ _) _)
theorem w_powI {y : Int} (hs : 0 ≤ y ∧ y < 60) (q : Q (.int (2 ^ y.toNat))) : WS (binop .Pow (.int 2) (.int y) μ) Q := bin_ints fun _ _ _ _ _ _ _ _ _ R K => pow_int_small hs.1 (by lia) (by decide) ((K _ q).now R (.int _ _) _)
theorem w_addT {x0 : V} {x y : List V} (hl : (x0 :: x).length + y.length < limit) (q : Q (.tup (x0 :: x ++ y))) : WS (binop .Add (.tup (x0 :: x)) (.tup y) μ) Q := by
 intro c A E s ι S va vb F R ra rb K
 exact add_tups hl R ra rb (K _ q)
theorem w_addL {a b : V} {x y : List V} (ha : listOf a μ = some x) (hb : listOf b μ = some y) (hl : x.length + y.length < limit) (q : Q (.lst (x ++ y))) : WS (binop .Add a b μ) Q := by
 intro c A E s ι S va vb F R ra rb K
 exact add_lsts hl R (list_of R ra ha) (list_of R rb hb) (K _ q)
end
end Mine
set_option tactic.hygienic true
set_option tactic.hygienic false
namespace Mine
open PySem.SeqAt
/-- plain data that a value reads as -/
structure Rd (h : Heap) (n : Nat) (v : Value) (x : V) : Prop where
 rd : ∃ as, Reads h v x.py as
 ok : x.py.canLay0 = true
 deep : x.py.depth ≤ n
structure Rds (h : Heap) (n : Nat) (vs : List Value) (xs : List V) : Prop where
 rd : ∃ as, ReadsAll h vs (V.pys xs) as
 ok : PyData.canLayAll0 (V.pys xs) = true
 deep : PyData.depthAll (V.pys xs) ≤ n
section
variable {h : Heap} {n : Nat} {v : Value} {x : V} {a : Addr} {vs : List Value} {xs : List V}
theorem Rds.nil : Rds h n [] [] := ⟨⟨_, .nil⟩, rfl, Nat.zero_le _⟩
theorem Rds.cons (a : Rd h n v x) (r : Rds h n vs xs) : Rds h n (v :: vs) (x :: xs) :=
 ⟨a.rd.elim fun _ p => r.rd.elim fun _ q => ⟨_, .cons p q⟩, Bool.and_eq_true_iff.mpr ⟨a.ok, r.ok⟩, Nat.max_le.mpr ⟨a.deep, r.deep⟩⟩
theorem Rd.tup (p : PT h a vs) (r : Rds h n vs xs) : Rd h (n + 1) (.ref a) (.tup xs) := ⟨p.elim fun _ e => r.rd.elim fun _ q => ⟨_, .tuple e rfl rfl q⟩, r.ok, Nat.succ_le_succ r.deep⟩
theorem Rd.lst (p : PL h a vs) (r : Rds h n vs xs) : Rd h (n + 1) (.ref a) (.lst xs) := ⟨p.elim fun _ e => r.rd.elim fun _ q => ⟨_, .list e rfl rfl q⟩, r.ok, Nat.succ_le_succ r.deep⟩
theorem Rd.of {ι : Own} {S : List Addr} (r : RelV ι S h v x) : ∀ n, V.pure1 (V.pureN n) x = true → Rd h (n + 1) v x :=
 RelV.rec (motive_1 := fun v x _ => ∀ n, V.pure1 (V.pureN n) x = true → Rd h (n + 1) v x) (motive_2 := fun vs xs _ => ∀ n, xs.all (V.pureN n) = true → Rds h n vs xs)
  (fun _ _ => ⟨⟨_, .none⟩, rfl, Nat.zero_le _⟩) (fun _ _ _ => ⟨⟨_, .bool _⟩, rfl, Nat.zero_le _⟩) (fun _ _ _ _ => ⟨⟨_, .int _ _⟩, rfl, Nat.zero_le _⟩) (fun _ _ _ e => ⟨⟨_, .str _ _⟩, e, Nat.zero_le _⟩)
  (fun p _ _ _ ih n e => .tup p (ih n e)) (fun p _ _ _ ih n e => .lst p (ih n e)) (fun _ _ e => ff e) (fun _ _ _ _ e => ff e) (fun _ _ => .nil)
  (fun _ _ a r n e => have e := Bool.and_eq_true_iff.mp e; match n, e with | 0, e => ff e.1 | n + 1, e => .cons (a n e.1) (r _ e.2)) r
theorem Rd.of' {ι : Own} {S : List Addr} (r : RelV ι S h v x) (e : x.pureN (n + 1) = true) : Rd h (n + 1) v x := .of r n e
theorem Rds.of {ι : Own} {S : List Addr} (r : RelVs ι S h vs xs) : xs.all (V.pureN (n + 1)) = true → Rds h (n + 1) vs xs :=
 r.ind (P := fun vs xs => xs.all (V.pureN (n + 1)) = true → Rds h (n + 1) vs xs) (fun _ => .nil) fun a _ ih e => have e := Bool.and_eq_true_iff.mp e; .cons (.of' a e.1) (ih e.2)
end
section
variable {s : Shared} {A : Around} {va vb : Value} {x y : V}
theorem Rd.room {h : Heap} {v : Value} {u k : Nat} {d : PyData} (a : Rd h 5 v x) (hu : u + 5 < k) : u + min x.py.depth d.depth < k := Nat.lt_of_le_of_lt (Nat.add_le_add_left (Nat.le_trans (Nat.min_le_left _ _) a.deep) _) hu
theorem eqAt_P (hu : A.units + 5 < cLine) (a : Rd s.heap 5 va x) (b : Rd s.heap 5 vb y) : EqAt A s va vb (PyData.eqv x.py y.py) := a.rd.elim fun _ p => b.rd.elim fun _ q => eqAt_reads _ _ _ _ _ _ _ _ p q a.ok b.ok (a.room hu)
theorem rcAt_V (hu : A.units + 8 < cLine) (a : Rd s.heap 5 va x) (b : Rd s.heap 5 vb y) : RcAt A s va vb (PyData.eqv x.py y.py) := a.rd.elim fun _ p => b.rd.elim fun _ q => rcAt_reads p q a.ok b.ok (a.room (Nat.lt_of_le_of_lt (Nat.add_le_add_left (by decide) _) hu))
theorem rcNeAt_V (hu : A.units + 8 < cLine) (a : Rd s.heap 5 va x) (b : Rd s.heap 5 vb y) : RcNeAt A s va vb (!PyData.eqv x.py y.py) := a.rd.elim fun _ p => b.rd.elim fun _ q => rcNeAt_reads p q a.ok b.ok (a.room (Nat.lt_of_le_of_lt (Nat.add_le_add_left (by decide) _) hu))
theorem Rd.uniq {h : Heap} {n : Nat} {v : Value} {x y : V} (a : Rd h n v x) (b : Rd h n v y) : x.py = y.py := a.rd.elim fun _ p => b.rd.elim fun _ q => Reads.unique _ _ _ _ _ a.ok p q
end
theorem V.lay (x : V) : ∀ n, x.pureN n = true → x.py.canLay0 = true :=
 V.rec (motive_1 := fun x => ∀ n, x.pureN n = true → x.py.canLay0 = true) (motive_2 := fun xs => ∀ n, xs.all (V.pureN n) = true → PyData.canLayAll0 (V.pys xs) = true) (fun _ _ => rfl) (fun _ _ _ => rfl) (fun _ _ _ => rfl)
  (fun _ n => match n with | 0 => ff | _ + 1 => id) (fun _ ih n => match n with | 0 => ff | n + 1 => ih n) (fun _ ih n => match n with | 0 => ff | n + 1 => ih n) (fun _ n => match n with | 0 => ff | _ + 1 => ff) (fun _ _ n => match n with | 0 => ff | _ + 1 => ff)
  (fun _ _ => rfl) (fun _ _ a r n e => Bool.and_eq_true_iff.mpr ⟨a n (Bool.and_eq_true_iff.mp e).1, r n (Bool.and_eq_true_iff.mp e).2⟩) x
end Mine
set_option tactic.hygienic true
set_option tactic.hygienic false
namespace Mine
open PySem.SeqAt
section
variable {prog : Program} {w : World} {ι : Own} {S : List Addr} {h : Heap}
theorem RelE.get : ∀ {es : List DictEntry} {kvs : List (V × V)} {i : Nat} {y x : V}, RelE prog w ι S h es kvs → kvs[i]? = some (y, x) → ∃ e, es[i]? = some e ∧ RelV ι S h e.key y ∧ RelV ι S h e.val x
 | _, _, 0, _, _, .cons a _ _ d _, e => by simp at e; obtain ⟨rfl, rfl⟩ := e; exact ⟨_, rfl, a, d⟩
 | _, _, i + 1, _, _, .cons _ _ _ _ r, e => by simpa using r.get (i := i) (by simpa using e)
 | _, _, _, _, _, .nil, e => by simp at e
theorem RelE.setAt : ∀ {es : List DictEntry} {kvs : List (V × V)} {i : Nat} {y x₀ x : V} {u : Value}, RelE prog w ι S h es kvs → kvs[i]? = some (y, x₀) → RelV ι S h u x →
  RelE prog w ι S h (es.modify i fun e => { e with val := u }) (kvs.set i (y, x))
 | _, _, 0, _, _, _, u, .cons (e := e₀) a b c d r, e, z => by
  simp at e; obtain ⟨rfl, rfl⟩ := e
  simpa using RelE.cons (e := { e₀ with val := u }) a b c z r
 | _, _, i + 1, _, _, _, _, .cons a b c d r, e, z => by simpa using RelE.cons a b c d (r.setAt (i := i) (by simpa using e) z)
 | _, _, _, _, _, _, _, .nil, e, _ => by simp at e
theorem RelE.erase : ∀ {es : List DictEntry} {kvs : List (V × V)} (i : Nat), RelE prog w ι S h es kvs → RelE prog w ι S h (es.eraseIdx i) (kvs.eraseIdx i)
 | _, _, _, .nil => by simpa using RelE.nil
 | _, _, 0, .cons a b c d r => by simpa using r
 | _, _, i + 1, .cons a b c d r => by simpa using RelE.cons a b c d (r.erase i)
theorem RelE.snoc : ∀ {es : List DictEntry} {kvs : List (V × V)} {e : DictEntry} {y x : V}, RelE prog w ι S h es kvs → RelV ι S h e.key y → y.key = true → e.hash = hashV prog w y → RelV ι S h e.val x → RelE prog w ι S h (es ++ [e]) (kvs ++ [(y, x)])
 | _, _, _, _, _, .nil, a, b, c, d => .cons a b c d .nil
 | _, _, _, _, _, .cons a b c d r, a', b', c', d' => .cons a b c d (r.snoc a' b' c' d')
end
theorem dget_none : ∀ {kvs : List (V × V)} {k : V}, (kvs.findIdx? fun e => V.beq e.1 k) = none → dget kvs k = none
 | [], _, _ => rfl
 | (y, x) :: r, k, e => by
  rw [List.findIdx?_cons] at e
  unfold dget
  cases q : V.beq y k with
  | true => simp [q] at e
  | false =>
   simp only [q, Bool.false_eq_true, if_false, Option.map_eq_none_iff] at e ⊢
   exact dget_none e
theorem dget_some : ∀ {kvs : List (V × V)} {k : V} {i : Nat}, (kvs.findIdx? fun e => V.beq e.1 k) = some i → ∃ y x, kvs[i]? = some (y, x) ∧ dget kvs k = some x ∧ y = k
 | [], _, _, e => by simp at e
 | (y, x) :: r, k, i, e => by
  rw [List.findIdx?_cons] at e
  unfold dget
  cases q : V.beq y k with
  | true =>
   simp only [q, if_true, Option.some.injEq] at e ⊢
   subst e
   exact ⟨y, x, rfl, rfl, (V.beq_iff _ _).mp q⟩
  | false =>
   simp only [q, Bool.false_eq_true, if_false] at e ⊢
   obtain ⟨j, hj, rfl⟩ := Option.map_eq_some_iff.mp e
   simpa using dget_some hj
theorem dput_none : ∀ {kvs : List (V × V)} {k x : V}, (kvs.findIdx? fun e => V.beq e.1 k) = none → dput kvs k x = kvs ++ [(k, x)]
 | [], _, _, _ => rfl
 | (y, _) :: r, k, x, e => by
  rw [List.findIdx?_cons] at e
  unfold dput
  cases q : V.beq y k with
  | true => simp [q] at e
  | false =>
   simp only [q, Bool.false_eq_true, if_false, Option.map_eq_none_iff] at e ⊢
   rw [dput_none e]; rfl
theorem dput_some : ∀ {kvs : List (V × V)} {k x y x₀ : V} {i : Nat}, (kvs.findIdx? fun e => V.beq e.1 k) = some i → kvs[i]? = some (y, x₀) → dput kvs k x = kvs.set i (y, x)
 | [], _, _, _, _, _, e, _ => by simp at e
 | (z, _) :: r, k, x, y, x₀, i, e, g => by
  rw [List.findIdx?_cons] at e
  unfold dput
  cases q : V.beq z k with
  | true =>
   simp only [q, if_true, Option.some.injEq] at e ⊢
   subst e
   simp at g
   simp [g.1]
  | false =>
   simp only [q, Bool.false_eq_true, if_false] at e ⊢
   obtain ⟨j, hj, rfl⟩ := Option.map_eq_some_iff.mp e
   rw [dput_some hj (by simpa using g)]
   simp
theorem ddel_some : ∀ {kvs : List (V × V)} {k : V} {i : Nat}, (kvs.findIdx? fun e => V.beq e.1 k) = some i → ddel kvs k = kvs.eraseIdx i
 | [], _, _, e => by simp at e
 | (z, _) :: r, k, i, e => by
  rw [List.findIdx?_cons] at e
  unfold ddel
  cases q : V.beq z k with
  | true =>
   simp only [q, if_true, Option.some.injEq] at e ⊢
   subst e; rfl
  | false =>
   simp only [q, Bool.false_eq_true, if_false] at e ⊢
   obtain ⟨j, hj, rfl⟩ := Option.map_eq_some_iff.mp e
   rw [ddel_some hj]; rfl
theorem keys_set {kvs : List (V × V)} {i : Nat} {y x₀ x : V} (g : kvs[i]? = some (y, x₀)) : (kvs.set i (y, x)).map (·.1) = kvs.map (·.1) := by
 rw [List.map_set]
 have : (kvs.map (·.1))[i]? = some y := by rw [List.getElem?_map, g]; rfl
 obtain ⟨hl, he⟩ := List.getElem?_eq_some_iff.mp this
 rw [← he]
 exact List.set_getElem_self hl
theorem map_erase : ∀ (i : Nat) (l : List (V × V)), (l.eraseIdx i).map (·.1) = (l.map (·.1)).eraseIdx i
 | _, [] => by simp
 | 0, _ :: _ => by simp
 | i + 1, _ :: r => by simp [map_erase i r]
theorem nodup_erase : ∀ {l : List V} (i : Nat), l.Nodup → (l.eraseIdx i).Nodup
 | l, i, h => h.sublist (List.eraseIdx_sublist l i)
theorem not_key {kvs : List (V × V)} {k : V} (e : (kvs.findIdx? fun e => V.beq e.1 k) = none) : k ∉ kvs.map (·.1) := by
 intro q
 obtain ⟨p, hp, rfl⟩ := List.mem_map.mp q
 have := List.findIdx?_eq_none_iff.mp e p hp
 rw [V.beq_self] at this; cases this
theorem sysmod {c : Cx} {ι : Own} {S : List Addr} {μ : Mem} {s : Shared} (R : Rel c ι S μ s) (hb : (c.base.get? sysModules).isSome = true) {d : Addr} (hd : d ∈ owned ι) : (d == sysModules) = false := by
 cases q : d == sysModules with
 | false => rfl
 | true =>
  have e : d = sysModules := by simpa using q
  subst e
  rw [R.new _ hd] at hb; cases hb
section
variable {c : Cx} {A : Around} {E : Value → Shared → Prop} {s : Shared} {ι : Own} {S : List Addr} {μ : Mem} {d : Addr} {es : List DictEntry} {kvs : List (V × V)} {v u : Value} {k x : V}
theorem dictGet_V {Q : Option Value → Shared → Prop} (hu : A.units < cLine) (ho : DObj s.heap d es) (re : RelE c.prog c.w ι S s.heap es kvs) (hn : (kvs.map (·.1)).Nodup) (r : RelV ι S s.heap v k) (hk : okKey kvs k = true)
  (hnone : dget kvs k = none → ∀ tk, Q none { s with toks := tk }) (hsome : ∀ x u, dget kvs k = some x → RelV ι S s.heap u x → ∀ tk, Q (some u) { s with toks := tk }) : wpAny (model c.prog c.w) A (dictGet d v) Q E s := by
 have hk1 : k.key = true := (Bool.and_eq_true_iff.mp hk).1
 unfold dictGet
 refine wpAny_holding (wpAny_bind (hash_V hu r hk1 fun tk => wpAny_bind (find_V (s := { s with toks := tk }) hu ho re hn r hk ?_)))
 cases hi : kvs.findIdx? fun e => V.beq e.1 k with
 | none => exact wpAny_pure (hnone (dget_none hi) tk)
 | some i =>
  obtain ⟨y, x, g, e, rfl⟩ := dget_some hi
  obtain ⟨en, h1, h2, h3⟩ := re.get g
  obtain ⟨ep, ho⟩ := ho
  refine wpAny_bind (wpAny_dictEntries (s := { s with toks := tk }) ho rfl ?_)
  refine wpAny_pure ?_
  simp only [List.getElem?_toArray, h1, Option.map_some]
  exact hsome x en.val e h3 tk
theorem dobj_set {i : Nat} {u : Value} {tk : Nat} (n : Nat) (R : Rel c ι S μ s) (hn : ι[n]? = some (d, none)) (ho : DObj s.heap d es) (re : RelE c.prog c.w ι S s.heap es kvs) (hnd : (kvs.map (·.1)).Nodup) {y x₀ : V} (g : kvs[i]? = some (y, x₀)) (ru : RelV ι S s.heap u x)
  : ∃ ep, s.heap.get? d = some { cls := .type "dict", dict := none, data := .dict es.toArray ep, slots := #[] } ∧
   let s' : Shared := { s with heap := s.heap.update d (Obj.mapDict fun a => a.modify i fun e => { e with val := u }), toks := tk }
   Rel c ι S (μ.set n (.dict (kvs.set i (y, x)))) s' ∧ Ext [] ι s.heap ι s'.heap := by
 obtain ⟨ep, ho⟩ := ho
 refine ⟨ep, ho, ?_⟩
 have hs : Heap.SameBut d s.heap (s.heap.update d (Obj.mapDict fun a => a.modify i fun e => { e with val := u })) := Heap.SameBut.update ..
 have hget := Heap.get?_update_self (Obj.mapDict fun a => a.modify i fun e => { e with val := u }) ho rfl
 refine R.set hn (fun b ob hb e => (hs.2 b (fun q => hb (by rw [q]; exact .head _))).trans e) (live_but hs hget) rfl rfl fun E => ?_
 refine .dict (es := es.modify i fun e => { e with val := u }) ⟨ep, ?_⟩ ((re.mono E fun _ h => nomatch h).setAt g (ru.mono E fun _ h => nomatch h)) (by rw [keys_set g]; exact hnd)
 rw [Heap.get?_update_self _ ho rfl]
 simp [Obj.mapDict]
theorem dobj_push {key u : Value} {y : V} {tk : Nat} (n : Nat) (R : Rel c ι S μ s) (hn : ι[n]? = some (d, none)) (ho : DObj s.heap d es) (re : RelE c.prog c.w ι S s.heap es kvs) (hnd : (kvs.map (·.1)).Nodup) (rk : RelV ι S s.heap key y) (hy : y.key = true) (hno : y ∉ kvs.map (·.1)) (ru : RelV ι S s.heap u x)
  : ∃ ep, s.heap.get? d = some { cls := .type "dict", dict := none, data := .dict es.toArray ep, slots := #[] } ∧
   let s' : Shared := { s with heap := s.heap.update d (Obj.mapDictKeys fun a => a.push ⟨hashV c.prog c.w y, key, u⟩), toks := tk }
   Rel c ι S (μ.set n (.dict (kvs ++ [(y, x)]))) s' ∧ Ext [] ι s.heap ι s'.heap := by
 obtain ⟨ep, ho⟩ := ho
 refine ⟨ep, ho, ?_⟩
 have hs : Heap.SameBut d s.heap (s.heap.update d (Obj.mapDictKeys fun a => a.push ⟨hashV c.prog c.w y, key, u⟩)) := Heap.SameBut.update ..
 have hget := Heap.get?_update_self (Obj.mapDictKeys fun a => a.push ⟨hashV c.prog c.w y, key, u⟩) ho rfl
 refine R.set hn (fun b ob hb e => (hs.2 b (fun q => hb (by rw [q]; exact .head _))).trans e) (live_but hs hget) rfl rfl fun E => ?_
 refine .dict (es := es ++ [⟨hashV c.prog c.w y, key, u⟩]) ⟨ep + 1, ?_⟩ ((re.mono E fun _ h => nomatch h).snoc (rk.mono E fun _ h => nomatch h) hy rfl (ru.mono E fun _ h => nomatch h)) ?_
 ·rw [Heap.get?_update_self _ ho rfl]
  simp [Obj.mapDictKeys]
 ·rw [List.map_append, List.nodup_append]
  exact ⟨hnd, by simp, fun a ha b hb e => hno (by simp at hb; rw [← hb, ← e]; exact ha)⟩
theorem dobj_erase {i : Nat} {tk : Nat} (n : Nat) (R : Rel c ι S μ s) (hn : ι[n]? = some (d, none)) (ho : DObj s.heap d es) (re : RelE c.prog c.w ι S s.heap es kvs) (hnd : (kvs.map (·.1)).Nodup) (hi : i < kvs.length)
  : ∃ ep, s.heap.get? d = some { cls := .type "dict", dict := none, data := .dict es.toArray ep, slots := #[] } ∧
   let s' : Shared := { s with heap := s.heap.update d (Obj.mapDictKeys fun a => a.eraseIdxIfInBounds i), toks := tk }
   Rel c ι S (μ.set n (.dict (kvs.eraseIdx i))) s' ∧ Ext [] ι s.heap ι s'.heap := by
 obtain ⟨ep, ho⟩ := ho
 refine ⟨ep, ho, ?_⟩
 have hs : Heap.SameBut d s.heap (s.heap.update d (Obj.mapDictKeys fun a => a.eraseIdxIfInBounds i)) := Heap.SameBut.update ..
 have hget := Heap.get?_update_self (Obj.mapDictKeys fun a => a.eraseIdxIfInBounds i) ho rfl
 refine R.set hn (fun b ob hb e => (hs.2 b (fun q => hb (by rw [q]; exact .head _))).trans e) (live_but hs hget) rfl rfl fun E => ?_
 refine .dict (es := es.eraseIdx i) ⟨ep + 1, ?_⟩ ((re.mono E fun _ h => nomatch h).erase i) ?_
 ·rw [Heap.get?_update_self _ ho rfl]
  have hl := re.length
  simp [Obj.mapDictKeys, Array.eraseIdxIfInBounds, hl, hi]
 ·have : (kvs.eraseIdx i).map (·.1) = (kvs.map (·.1)).eraseIdx i := map_erase i kvs
  rw [this]; exact nodup_erase i hnd
theorem dictSet_V {Q : Unit → Shared → Prop} (n : Nat) (hu : A.units < cLine) (R : Rel c ι S μ s) (hn : ι[n]? = some (d, none)) (hm : μ[n]? = some (.dict kvs)) (r : RelV ι S s.heap v k) (ru : RelV ι S s.heap u x) (hk : okKey kvs k = true) (hz : kvs.length < limit)
  (hq : ∀ s', Ext [] ι s.heap ι s'.heap → Rel c ι S (μ.set n (.dict (dput kvs k x))) s' → Q () s') : wpAny (model c.prog c.w) A (dictSet d v u) Q E s := by
 have hk1 : k.key = true := (Bool.and_eq_true_iff.mp hk).1
 refine R.dictO hn hm fun _ ho re hnd => ?_
 rename_i es
 unfold dictSet
 refine wpAny_holding (wpAny_bind (hash_V hu r hk1 fun tk => ?_))
 unfold dictSetHashed
 refine wpAny_holding (wpAny_bind (find_V (s := { s with toks := tk }) hu ho re hnd r hk ?_))
 cases hi : kvs.findIdx? fun e => V.beq e.1 k with
 | none =>
  obtain ⟨ep, ho', R', E'⟩ := dobj_push (tk := tk) n R hn ho re hnd r hk1 (not_key hi) ru
  have hes : es.length ≤ sizeLine := by have := re.length; have := limit_lt; lia
  refine wpAny_bind (wpAny_rule (wpAny_updateDictKeys (s := { s with toks := tk }) (hz := by simpa using hes) ho' rfl ?_))
  rw [dput_none hi] at hq
  exact hq _ E' R'
 | some i =>
  obtain ⟨y, x₀, g, e, rfl⟩ := dget_some hi
  obtain ⟨ep, ho', R', E'⟩ := dobj_set (tk := tk) n R hn ho re hnd g ru
  refine wpAny_bind (wpAny_rule (wpAny_bind (wpAny_updateDict (s := { s with toks := tk }) ho' rfl (wpAny_point ?_))))
  rw [dput_some hi g] at hq
  exact hq _ E' R'
end
end Mine
set_option tactic.hygienic true
set_option tactic.hygienic false
namespace Mine
open PySem.SeqAt
section
variable {c : Cx} {A : Around} {E : Value → Shared → Prop} {s : Shared} {ι : Own} {S : List Addr} {μ : Mem} {d : Addr} {kvs : List (V × V)} {v u : Value} {k x : V}
theorem DObj.typeIs {es : List DictEntry} (o : DObj s.heap d es) : s.TypeIs (.ref d) "dict" := let ⟨_, e⟩ := o; ⟨_, e, rfl⟩
theorem dictSetDefault_V {Q : Value → Shared → Prop} (n : Nat) (hu : A.units < cLine) (R : Rel c ι S μ s) (hn : ι[n]? = some (d, none)) (hm : μ[n]? = some (.dict kvs)) (r : RelV ι S s.heap v k) (ru : RelV ι S s.heap u x) (hk : okKey kvs k = true) (hz : kvs.length < limit)
  (hold : ∀ y, dget kvs k = some y → PostV c ι S s.heap μ y Q) (hnew : dget kvs k = none → PostV c ι S s.heap (μ.set n (.dict (dput kvs k x))) x Q) : wpAny (model c.prog c.w) A (dictSetDefault d v u) Q E s := by
 have hk1 : k.key = true := (Bool.and_eq_true_iff.mp hk).1
 refine R.dictO hn hm fun _ ho re hnd => ?_
 rename_i es
 unfold dictSetDefault
 refine wpAny_holding (wpAny_bind (hash_V hu r hk1 fun tk => ?_))
 refine wpAny_bind (find_V (s := { s with toks := tk }) hu ho re hnd r hk ?_)
 cases hi : kvs.findIdx? fun e => V.beq e.1 k with
 | none =>
  obtain ⟨ep, ho', R', E'⟩ := dobj_push (tk := tk) n R hn ho re hnd r hk1 (not_key hi) ru
  have hes : es.length ≤ sizeLine := by have := re.length; have := limit_lt; lia
  refine wpAny_bind (wpAny_rule (wpAny_bind (wpAny_updateDictKeys (s := { s with toks := tk }) (hz := by simpa using hes) ho' rfl ?_)))
  have hnew := hnew (dget_none hi)
  rw [dput_none hi] at hnew
  exact wpAny_pure (hnew _ _ _ E' R' (ru.mono E' fun _ h => nomatch h))
 | some i =>
  obtain ⟨y, x₀, g, e, rfl⟩ := dget_some hi
  obtain ⟨en, h1, h2, h3⟩ := re.get g
  obtain ⟨ep, ho⟩ := ho
  refine wpAny_bind (wpAny_dictEntries (s := { s with toks := tk }) ho rfl ?_)
  simp only [List.getElem?_toArray, h1]
  exact wpAny_bind (wpAny_rule (wpAny_pure ((hold x₀ e).now R h3 tk)))
theorem takeOut_V {Q : Option DictEntry → Shared → Prop} (n : Nat) (hu : A.units < cLine) (R : Rel c ι S μ s) (hn : ι[n]? = some (d, none)) (hm : μ[n]? = some (.dict kvs)) (r : RelV ι S s.heap v k) (hk : okKey kvs k = true) (hz : kvs.length < sizeLine) (hg : dget kvs k = some x)
  (hq : ∀ e s', Ext [] ι s.heap ι s'.heap → Rel c ι S (μ.set n (.dict (ddel kvs k))) s' → RelV ι S s'.heap e.val x → Q (some e) s') : wpAny (model c.prog c.w) A (Builtin.Dict.takeOut d v) Q E s := by
 have hk1 : k.key = true := (Bool.and_eq_true_iff.mp hk).1
 refine R.dictO hn hm fun _ ho re hnd => ?_
 rename_i es
 unfold Builtin.Dict.takeOut
 refine wpAny_holding (wpAny_bind (hash_V hu r hk1 fun tk => ?_))
 refine wpAny_bind (find_V (s := { s with toks := tk }) hu ho re hnd r hk ?_)
 cases hi : kvs.findIdx? fun e => V.beq e.1 k with
 | none => rw [dget_none hi] at hg; cases hg
 | some i =>
  obtain ⟨y, x₀, g, e, rfl⟩ := dget_some hi
  rw [e] at hg
  cases hg
  obtain ⟨en, h1, h2, h3⟩ := re.get g
  have hil : i < kvs.length := (List.getElem?_eq_some_iff.mp g).1
  obtain ⟨ep, ho', R', E'⟩ := dobj_erase (tk := tk) n R hn ho re hnd hil
  have hes : es.length ≤ sizeLine := by have := re.length; lia
  refine wpAny_bind (wpAny_dictEntries (s := { s with toks := tk }) ho' rfl ?_)
  simp only [List.getElem?_toArray, h1]
  have hz' : (es.toArray.eraseIdxIfInBounds i).size ≤ es.toArray.size + 1 := by
   have := MeetsSeq.size_erased
   unfold Array.eraseIdxIfInBounds
   split
   ·rw [Array.size_eraseIdx]; lia
   ·exact Nat.le_add_right _ _
  refine wpAny_bind (wpAny_updateDictKeys (s := { s with toks := tk }) (hz := by simpa using hes) (hf := hz') ho' rfl (wpAny_pure ?_))
  rw [ddel_some hi] at hq
  exact hq en _ E' R' (h3.mono E' fun _ h => nomatch h)
theorem getItem_dict {Q : Value → Shared → Prop} (n : Nat) (hu : A.units + 1 < cLine) (R : Rel c ι S μ s) (hn : ι[n]? = some (d, none)) (hm : μ[n]? = some (.dict kvs)) (r : RelV ι S s.heap v k) (hk : okKey kvs k = true) (hg : dget kvs k = some x)
  (hq : PostV c ι S s.heap μ x Q) : wpAny (model c.prog c.w) A (getItem (.ref d) v) Q E s := by
 refine R.dictO hn hm fun _ ho re hnd => ?_
 unfold getItem
 refine wpAny_holding ?_
 refine wpAny_bind (wpAny_sequenceKey ho.typeIs (by decide) ?_)
 refine wpAny_bind (wpAny_callSpecial?_slot (name := Str.ofString "__getitem__") ho.typeIs slot_dict_getitem
  (wpAny_call_entry slot_dict_getitem ho.typeIs entry_dict_getitem ?_ (args_dict_getitem _ _)))
 show wpAny _ _ (dictGet d v >>= _) _ _ s
 refine wpAny_bind (dictGet_V (A := A.in1) hu ho re hnd r hk (fun e => by rw [e] at hg; cases hg) fun y u e ry tk => ?_)
 rw [hg] at e
 cases e
 exact wpAny_pure ⟨u, rfl, wpAny_pure (hq.now R ry tk)⟩
theorem contains_dict {Q : Bool → Shared → Prop} (n : Nat) (hsys : (c.base.get? sysModules).isSome = true) (hu : A.units + 1 < cLine) (R : Rel c ι S μ s) (hn : ι[n]? = some (d, none)) (hm : μ[n]? = some (.dict kvs)) (r : RelV ι S s.heap v k) (hk : okKey kvs k = true)
  (hq : ∀ tk, Q (dget kvs k).isSome { s with toks := tk }) : wpAny (model c.prog c.w) A (contains (.ref d) v) Q E s := by
 refine R.dictO hn hm fun _ ho re hnd => ?_
 have hd := sysmod R hsys (mem_owned hn _ (.head _))
 unfold contains
 refine wpAny_holding ?_
 refine wpAny_bind (wpAny_specialOf ho.typeIs slot_dict_contains.lookup ?_)
 show wpAny _ _ (if (some (Value.builtin "dict.__contains__") == some Value.none) = true then _ else _) _ E s
 rw [if_neg (by rw [beq_builtin_none]; exact Bool.false_ne_true)]
 refine wpAny_bind (wpAny_callSpecialUnlessNone?_slot (name := Str.ofString "__contains__") ho.typeIs slot_dict_contains
  (wpAny_call_entry slot_dict_contains ho.typeIs entry_dict_contains ?_ (args_dict_contains _ _)))
 show wpAny _ _ (dictGet d v >>= _) _ _ s
 refine wpAny_bind (dictGet_V (A := A.in1) hu ho re hnd r hk (fun e tk => ?_) fun y u e ry tk => ?_)
 ·have hq := hq tk
  rw [e] at hq
  show wpAny _ _ (Builtin.Dict.pendingKey? d v >>= _) _ _ _
  exact wpAny_bind (wpAny_pendingKey_other hd (wpAny_pure ⟨_, rfl, wpAny_truthy_bool hq⟩))
 ·have hq := hq tk
  rw [e] at hq
  show wpAny _ _ (ret (.bool true)) _ _ _
  exact wpAny_pure ⟨_, rfl, wpAny_truthy_bool hq⟩
theorem setItem_dict {Q : Unit → Shared → Prop} (n : Nat) (hu : A.units + 1 < cLine) (R : Rel c ι S μ s) (hn : ι[n]? = some (d, none)) (hm : μ[n]? = some (.dict kvs)) (r : RelV ι S s.heap v k) (ru : RelV ι S s.heap u x) (hk : okKey kvs k = true) (hz : kvs.length < limit)
  (hq : ∀ s', Ext [] ι s.heap ι s'.heap → Rel c ι S (μ.set n (.dict (dput kvs k x))) s' → Q () s') : wpAny (model c.prog c.w) A (setItem (.ref d) v u) Q E s := by
 refine R.dictO hn hm fun _ ho re hnd => ?_
 unfold setItem
 refine wpAny_holding ?_
 refine wpAny_bind (wpAny_sequenceKey ho.typeIs (by decide) ?_)
 refine wpAny_bind (wpAny_callSpecial?_slot (name := Str.ofString "__setitem__") ho.typeIs slot_dict_setitem
  (wpAny_call_entry slot_dict_setitem ho.typeIs entry_dict_setitem ?_ (args_dict_setitem _ _ _)))
 show wpAny _ _ (Builtin.Dict.notOrdered "__setitem__" ⟨[.ref d, v, u], []⟩ >>= _) _ _ s
 refine wpAny_bind (wpAny_notOrdered_dict ho.typeIs ?_)
 show wpAny _ _ (dictSet d v u >>= _) _ _ s
 exact wpAny_bind (dictSet_V (A := A.in1) n hu R hn hm r ru hk hz fun s' E' R' => wpAny_pure ⟨.none, rfl, wpAny_pure (hq s' E' R')⟩)
theorem delItem_dict {Q : Unit → Shared → Prop} (n : Nat) (hu : A.units + 1 < cLine) (R : Rel c ι S μ s) (hn : ι[n]? = some (d, none)) (hm : μ[n]? = some (.dict kvs)) (r : RelV ι S s.heap v k) (hk : okKey kvs k = true) (hz : kvs.length < limit) (hg : (dget kvs k).isSome = true)
  (hq : ∀ s', Ext [] ι s.heap ι s'.heap → Rel c ι S (μ.set n (.dict (ddel kvs k))) s' → Q () s') : wpAny (model c.prog c.w) A (delItem (.ref d) v) Q E s := by
 obtain ⟨x, hg⟩ := Option.isSome_iff_exists.mp hg
 refine R.dictO hn hm fun _ ho re hnd => ?_
 refine wpAny_delItem_slot ho.typeIs (by decide) F.slot_dict_delitem (wpAny_call_entry F.slot_dict_delitem ho.typeIs F.entry_dict_delitem ?_ (F.args_dict_delitem_2 _ _))
 unfold Builtin.«dict.__delitem__»
 refine wpAny_bind ?_
 unfold Builtin.Dict.dictSlotArgs
 refine wpAny_bind (wpAny_notOrdered_dict ho.typeIs ?_)
 show wpAny _ _ (pure (Value.ref d, v)) _ _ s
 refine wpAny_pure ?_
 show wpAny _ _ (Builtin.Dict.takeOut d v >>= _) _ _ s
 refine wpAny_bind (takeOut_V (A := A.in1) n hu R hn hm r hk (by have := limit_lt; solve_by_elim (maxDepth := 4) only [*, Nat.le_of_lt, Nat.le_trans, Nat.le_add_right, Nat.le_add_left, Nat.le_succ, Nat.succ_le_succ, Nat.zero_le, Nat.lt_succ_of_lt, Nat.lt_succ_of_le, Nat.le_of_lt_succ]) hg fun e s' E' R' _ => ?_)
 exact wpAny_bind (wpAny_letGo (wpAny_pure ⟨.none, rfl, hq s' E' R'⟩))
theorem setdefault_dict {Q : Value → Shared → Prop} (n : Nat) (hsys : (c.base.get? sysModules).isSome = true) (hu : A.units + 1 < cLine) (R : Rel c ι S μ s) (hn : ι[n]? = some (d, none)) (hm : μ[n]? = some (.dict kvs)) (r : RelV ι S s.heap v k) (ru : RelV ι S s.heap u x) (hk : okKey kvs k = true) (hz : kvs.length < limit)
  (hold : ∀ y, dget kvs k = some y → PostV c ι S s.heap μ y Q) (hnew : dget kvs k = none → PostV c ι S s.heap (μ.set n (.dict (dput kvs k x))) x Q) : wpAny (model c.prog c.w) A (call (.builtin "dict.setdefault") [.ref d, v, u]) Q E s := by
 refine R.dictO hn hm fun _ ho re hnd => ?_
 have hd := sysmod R hsys (mem_owned hn _ (.head _))
 refine wpAny_call_entry F.slot_dict_setdefault ho.typeIs F.entry_dict_setdefault ?_ (F.args_dict_setdefault_3 _ _ _)
 unfold Builtin.«dict.setdefault»
 refine wpAny_bind ?_
 unfold Builtin.Dict.keyAndDefault
 refine wpAny_bind (wpAny_notOrdered_dict ho.typeIs ?_)
 show wpAny _ _ (pure (d, v, some u)) _ _ s
 refine wpAny_pure ?_
 show wpAny _ _ (if (d == sysModules) = true then _ else (dictSetDefault d v u >>= _)) _ _ s
 rw [if_neg (by rw [hd]; exact Bool.false_ne_true)]
 exact wpAny_bind (dictSetDefault_V (A := A.in1) n hu R hn hm r ru hk hz (fun y hy v' ι' s' E' R' r' => wpAny_pure ⟨v', rfl, hold y hy v' ι' s' E' R' r'⟩) fun h v' ι' s' E' R' r' => wpAny_pure ⟨v', rfl, hnew h v' ι' s' E' R' r'⟩)
theorem pop_dict {Q : Value → Shared → Prop} (n : Nat) (hka : k.atom = true) (hu : A.units + 1 < cLine) (R : Rel c ι S μ s) (hn : ι[n]? = some (d, none)) (hm : μ[n]? = some (.dict kvs)) (r : RelV ι S s.heap v k) (hk : okKey kvs k = true) (hz : kvs.length < limit) (hg : dget kvs k = some x)
  (hq : PostV c ι S s.heap (μ.set n (.dict (ddel kvs k))) x Q) : wpAny (model c.prog c.w) A (call (.builtin "dict.pop") [.ref d, v]) Q E s := by
 refine R.dictO hn hm fun _ ho re hnd => ?_
 rename_i es
 refine wpAny_call_entry F.slot_dict_pop ho.typeIs F.entry_dict_pop ?_ (F.args_dict_pop_2 _ _)
 unfold Builtin.«dict.pop»
 refine wpAny_bind ?_
 unfold Builtin.Dict.keyAndDefault
 refine wpAny_bind (wpAny_notOrdered_dict ho.typeIs ?_)
 show wpAny _ _ (pure (d, v, none)) _ _ s
 refine wpAny_pure ?_
 have hpart : (keyPart v).isSome = true := by
  cases k with
  | int i => exact r.intI (P := fun v => (keyPart v).isSome = true) fun t => rfl
  | str z => exact r.strI (P := fun v => (keyPart v).isSome = true) fun t => rfl
  | _ => exact ff hka
 refine wpAny_ite_split (fun _ => ?_) fun h => absurd hpart h
 refine wpAny_bind (wpAny_pure ?_)
 refine wpAny_ite_split (fun h => ff h) fun _ => ?_
 refine wpAny_bind (takeOut_V (A := A.in1) n hu R hn hm r hk (by have := limit_lt; solve_by_elim (maxDepth := 4) only [*, Nat.le_of_lt, Nat.le_trans, Nat.le_add_right, Nat.le_add_left, Nat.le_succ, Nat.succ_le_succ, Nat.zero_le, Nat.lt_succ_of_lt, Nat.lt_succ_of_le, Nat.le_of_lt_succ]) hg fun e s' E' R' r' => ?_)
 exact wpAny_ite_split (fun h => ff h) fun _ => wpAny_bind (wpAny_letGo (wpAny_pure ⟨e.val, rfl, hq _ _ _ E' R' r'⟩))
end
end Mine
set_option tactic.hygienic true
namespace Mine
open PySem.SeqAt
open PyProof.Rows (subscriptTail subscriptTail_ops)
theorem subs_ops (slice : Expr) (o i : Value) : ∃ ops, subscripted slice false o i = operate ops (getItem o i) := by
 cases slice
 all_goals first
  | exact ⟨[o, i], by with_unfolding_all rfl⟩
  | skip
 rename_i lo hi st p
 cases st
 ·exact ⟨[i, o], by with_unfolding_all rfl⟩
 ·exact ⟨[o, i], by with_unfolding_all rfl⟩
section
variable {c : Cx} {A : Around} {E : Value → Shared → Prop} {s : Shared} {ι : Own} {S : List Addr} {μ : Mem} {x : V} {Q : Value → Shared → Prop}
theorem PT.isTup {h : Heap} {a : Addr} {items : List Value} (x : PT h a items) : PyProof.Rows.IsTup h a items.toArray := let ⟨n, e⟩ := x; ⟨_, e, rfl, n, rfl⟩
theorem tail_V {value slice : Expr} {o i : Value} {T id : String} (hT : s.TypeIs o T) (hl : typeLookup (.type T) "__getitem__" = pure (some (.builtin id))) (h : wpAny (model c.prog c.w) A (getItem o i) Q E s) :
  wpAny (model c.prog c.w) A (subscriptTail value slice o i) Q E s := by
 obtain ⟨ops, e⟩ := subs_ops slice o i
 unfold subscriptTail
 refine wpAny_bind ?_
 rw [getitemInPython_of_ne hT.not_modules]
 refine wpAny_bind (wpAny_specialOf hT hl ?_)
 have fin : wpAny (model c.prog c.w) A (subscripted slice false o i) (fun r s₃ => wpAny (model c.prog c.w) A (letTemporaryGo value o r >>= fun _ => pure r) Q E s₃) E s := by
  rw [e]
  exact wpAny_operating (wpAny_mono h (fun r s₃ h₃ => wpAny_bind (wpAny_letTemporaryGo (wpAny_pure h₃))) fun _ _ x => x)
 first
  | exact wpAny_pure (wpAny_bind fin)
  | exact wpAny_bind (wpAny_pure (wpAny_bind fin))
  | exact wpAny_bind fin
theorem getIdx_some {vs : List V} {i : Int} (e : getIdx vs i = some x) : 0 ≤ i ∧ i < 1048576 ∧ vs[i.toNat]? = some x := by
 unfold getIdx at e
 split at e
 ·rename_i h
  rw [limit_eq] at h
  exact ⟨h.1, by lia, e⟩
 ·cases e
theorem getItem_lst {a : Addr} {vs : List Value} {xs : List V} {i : Int} {t : Tok} (R : Rel c ι S μ s) (p : PL s.heap a vs) (r : RelVs ι S s.heap vs xs) (e : getIdx xs i = some x) (hq : PostV c ι S s.heap μ x Q) : wpAny (model c.prog c.w) A (getItem (.ref a) (.int i t)) Q E s := by
 obtain ⟨h0, h1, h2⟩ := getIdx_some e
 obtain ⟨v, hv, rv⟩ := r.get h2
 exact wpAny_getItem_list p.isList h0 (by solve_by_elim (maxDepth := 4) only [*, Int.natCast_nonneg, Int.le_trans, Int.lt_of_lt_of_le, Int.lt_of_le_of_lt, Int.le_of_lt, Int.not_lt_of_ge, Int.not_le_of_gt]) (by simpa using hv) (hq.now R rv s.toks)
theorem getItem_tup {a : Addr} {vs : List Value} {xs : List V} {i : Int} {t : Tok} (R : Rel c ι S μ s) (p : PT s.heap a vs) (r : RelVs ι S s.heap vs xs) (e : getIdx xs i = some x) (hq : PostV c ι S s.heap μ x Q) : wpAny (model c.prog c.w) A (getItem (.ref a) (.int i t)) Q E s := by
 obtain ⟨h0, h1, h2⟩ := getIdx_some e
 obtain ⟨v, hv, rv⟩ := r.get h2
 have hn := (List.getElem?_eq_some_iff.mp hv).1
 exact PyProof.Rows.getItem_tuple p.isTup (by lia) (by solve_by_elim (maxDepth := 4) only [*, Int.natCast_nonneg, Int.le_trans, Int.lt_of_lt_of_le, Int.lt_of_le_of_lt, Int.le_of_lt, Int.not_lt_of_ge, Int.not_le_of_gt]) (seqIndex_of h0 (by simp; lia)) (by simpa using hv) (hq.now R rv s.toks)
theorem PL.typeIs {a : Addr} {vs : List Value} (p : PL s.heap a vs) : s.TypeIs (.ref a) "list" := let ⟨_, e⟩ := p; ⟨_, e, rfl⟩
theorem PT.typeIs {a : Addr} {vs : List Value} (p : PT s.heap a vs) : s.TypeIs (.ref a) "tuple" := let ⟨_, e⟩ := p; ⟨_, e, rfl⟩
end
/-- an item -/
noncomputable def getItemV (o i : V) (μ : Mem) (q : V → Prop) : Prop := ∀ ⦃c A E s ι S vo vi Q value slice⦄, A.units + 1 < cLine → Rel c ι S μ s → RelV ι S s.heap vo o → RelV ι S s.heap vi i → (∀ x, q x → PostV c ι S s.heap μ x Q) → wpAny (model c.prog c.w) A (subscriptTail value slice vo vi) Q E s
section
variable {μ : Mem} {k : Nat} {Q : V → Prop} {vs : List V} {i : Int} {v x : V}
theorem getIdx_nat {i : Nat} (hi : i < limit) : getIdx vs (i : Int) = vs[i]? := by
 unfold getIdx
 rw [if_pos ⟨Int.natCast_nonneg i, Int.ofNat_lt.mpr hi⟩]
 rfl
theorem w_idxT (e : getIdx vs i = some v) (q : Q v) : WS (getItemV (.tup vs) (.int i) μ) Q := by
 intro c A E s ι S vo vi F va sl hu R ro ri K
 exact ri.intI (P := fun z => wpAny _ _ (subscriptTail _ _ _ z) _ _ _) fun t => ro.tupI (P := fun z => wpAny _ _ (subscriptTail _ _ z _) _ _ _) fun a us p _ _ r => tail_V p.typeIs PySem.F.slot_tuple_getitem.lookup (getItem_tup R p r e (K _ q))
theorem w_idxL {c : V} (hc : listOf c μ = some vs) (e : getIdx vs i = some v) (q : Q v) : WS (getItemV c (.int i) μ) Q := by
 intro c A E s ι S vo vi F va sl hu R ro ri K
 refine ri.intI (P := fun z => wpAny _ _ (subscriptTail _ _ _ z) _ _ _) fun t => ?_
 obtain ⟨a, us, rfl, p, r⟩ := list_of R ro hc
 exact tail_V p.typeIs PySem.F.slot_list_getitem.lookup (getItem_lst R p r e (K _ q))
theorem w_idxD {es : List (V × V)} (hm : μ[k]? = some (.dict es)) (hk : okKey es x = true) (e : dget es x = some v) (q : Q v) : WS (getItemV (.ref k) x μ) Q := by
 intro c A E s ι S vo vi F va sl hu R ro ri K
 refine R.dictI (P := fun z => wpAny _ _ (subscriptTail _ _ z _) _ _ _) ro hm fun a hn => ?_
 refine R.dictO hn hm fun _ ho re hnd => ?_
 exact tail_V ho.typeIs slot_dict_getitem.lookup (getItem_dict _ hu R hn hm ri hk e (K _ q))
theorem w_idxS {x : Str} (h : 0 ≤ i ∧ i < x.cps.size ∧ x.cps.size < limit) (q : Q (.str ⟨#[x.cps.getD i.toNat 0]⟩)) : WS (getItemV (.str x) (.int i) μ) Q := by
 intro c A E s ι S vo vi F va sl hu R ro ri K
 refine ri.intI (P := fun z => wpAny _ _ (subscriptTail _ _ _ z) _ _ _) fun t => ?_
 rw [limit_eq] at h
 cases ro with
 | str y u =>
  refine tail_V (T := "str") (by rfl) PySem.F.slot_str_getitem.lookup (PyProof.Rows.getItem_str (by simp; lia) ?_ ((K _ q).now R (.str _ _) _))
  have e := seqIndex_of h.1 h.2.1
  refine (congrArg (fun z => Option.bind z _) e).trans ?_
  have q := h.2.1
  rw [← Int.toNat_of_nonneg h.1, Int.ofNat_lt] at q
  simp [q]
end
section
variable {prog : Program} {w : World} {A : Around} {E : Value → Shared → Prop} {s : Shared}
open PyProof.Rows
theorem adjust_rev (n : Nat) : Builtin.Slice.sliceAdjust none none (-1) (n : Int) = ((n : Int) - 1, -1) := by
 unfold Builtin.Slice.sliceAdjust
 simp
theorem places_rev (n : Nat) : Builtin.Slice.slicePlaces ((n : Int) - 1) (-1) (-1) = n := by
 unfold Builtin.Slice.slicePlaces
 by_cases h : n = 0
 ·subst h; simp
 ·simp
  lia
theorem sliceApplied_rev {sl : Addr} {n : Nat} {u : Tok} {Q : Int × Int × Nat → Shared → Prop} (hs : s.heap.IsSliceOf sl .none .none (.int (-1) u)) (h : Q ((n : Int) - 1, -1, n) s) :
  wpAny (model prog w) A (Builtin.Slice.sliceApplied (.ref sl) (pure (n : Int))) Q E s := by
 obtain ⟨os, hos, hcs, hds⟩ := id hs
 unfold Builtin.Slice.sliceApplied Builtin.Slice.sliceFields
 refine wpAny_bind (wpAny_bind (wpAny_field hos hds (x := .none) rfl (wpAny_bind (wpAny_field hos hds (x := .none) rfl (wpAny_bind (wpAny_field hos hds (x := .int (-1) u) rfl (wpAny_pure ?_)))))))
 refine wpAny_bind (slicePart_int ?_)
 show wpAny _ _ (if ((-1 : Int) == 0) = true then _ else _) _ _ s
 rw [if_neg (by decide)]
 refine wpAny_bind (slicePart_none (wpAny_bind (slicePart_none (wpAny_bind (wpAny_pure ?_)))))
 show wpAny _ _ (match Builtin.Slice.sliceAdjust none none (-1) (n : Int) with | (lo, hi) => pure (lo, (-1 : Int), Builtin.Slice.slicePlaces lo hi (-1))) _ _ s
 rw [adjust_rev n]
 show wpAny _ _ (pure ((n : Int) - 1, (-1 : Int), Builtin.Slice.slicePlaces ((n : Int) - 1) (-1) (-1))) _ _ s
 rw [places_rev n]
 exact wpAny_pure h
theorem pick_rev (xs : Array Value) : ((List.range xs.size).filterMap fun (k : Nat) => xs[((xs.size : Int) - 1 + (k : Int) * (-1)).toNat]?).toArray = xs.toList.reverse.toArray := by
 have e : (List.range xs.size).filterMap (fun (k : Nat) => xs[((xs.size : Int) - 1 + (k : Int) * (-1)).toNat]?) = ((List.range xs.size).map fun k => xs.size - 1 - k).filterMap (xs[·]?) := by
  rw [List.filterMap_map]
  have e2 : (fun (k : Nat) => xs[((xs.size : Int) - 1 + (k : Int) * (-1)).toNat]?) = ((fun x => xs[x]?) ∘ fun k => xs.size - 1 - k) := by
   funext k
   have : ((xs.size : Int) - 1 + (k : Int) * (-1)).toNat = xs.size - 1 - k := by
    rw [Int.mul_neg, Int.mul_one, ← Int.sub_eq_add_neg, Int.sub_sub]
    exact (Int.toNat_sub xs.size (1 + k)).trans (Nat.sub_sub ..).symm
   simp only [Function.comp, this]
  rw [e2]
 rw [e, PySem.W.krv_range, List.filterMap_reverse, PySem.W.krv_all]
theorem getItem_tuple_rev {t sl : Addr} {items : Array Value} {u : Tok} {Q : Value → Shared → Prop} (ht : IsTup s.heap t items) (hs : s.heap.IsSliceOf sl .none .none (.int (-1) u))
  (h : Q (.ref s.heap.objs.size) { s with heap := s.heap.push { cls := .type "tuple", data := .seq items.toList.reverse.toArray } })
  (hsz : items.size ≤ sizeLine) : wpAny (model prog w) A (getItem (.ref t) (.ref sl)) Q E s := by
 have hdrop : sizeOk (.seq items.toList.reverse.toArray) := by
  show items.toList.reverse.toArray.size ≤ sizeLine
  simpa using hsz
 obtain ⟨os, hos, hcs, hds⟩ := id hs
 have hTs : s.TypeIs (.ref sl) "slice" := ⟨os, hos, hcs⟩
 unfold getItem
 refine wpAny_holding ?_
 refine wpAny_bind (wpAny_sequenceKey ht.typeIs (by decide) ?_)
 refine wpAny_bind (wpAny_callSpecial?_slot (name := Str.ofString "__getitem__") ht.typeIs slot_tuple_getitem
  (wpAny_call_entry slot_tuple_getitem ht.typeIs entry_tuple_getitem ?_ (args_tuple_getitem _ _)))
 show wpAny _ _ (Builtin.Tuple.tupleItemsOf (.ref t) >>= _) _ _ s
 refine wpAny_bind (tupleItemsOf_ ht ?_)
 refine wpAny_bind (wpAny_typeOf hTs ?_)
 rw [if_pos (by decide)]
 refine wpAny_bind (sliceApplied_rev hs ?_)
 have hno : ¬ (((items.size : Int) - 1 == 0 && (-1 : Int) == 1 && items.size == items.size) = true) := by
  rw [show ((-1 : Int) == 1) = false by decide]; simp
 show wpAny _ _ (if ((items.size : Int) - 1 == 0 && (-1 : Int) == 1 && items.size == items.size) = true then _ else _) _ _ s
 rw [if_neg hno, pick_rev items]
 first
  | exact wpAny_bind (m := Builtin.Tuple.tupleExact _) (wpAny_newObj_type (wpAny_pure ⟨_, rfl, wpAny_pure h⟩) hdrop)
  | exact wpAny_bind (m := Builtin.Tuple.tupleExact _) (wpAny_newObj_type (wpAny_bind (wpAny_pure (wpAny_pure ⟨_, rfl, wpAny_pure h⟩))) hdrop)
  | exact wpAny_bind (wpAny_bind (m := Builtin.Tuple.tupleExact _) (wpAny_newObj_type (wpAny_pure (wpAny_pure ⟨_, rfl, wpAny_pure h⟩)) hdrop))
  | exact wpAny_bind (wpAny_bind (m := Builtin.Tuple.tupleExact _) (wpAny_newObj_type (wpAny_pure ⟨_, rfl, wpAny_pure h⟩) hdrop))
end
section
variable {c : Cx} {A : Around} {E : Value → Shared → Prop} {s : Shared} {ι : Own} {S : List Addr} {μ : Mem} {x : V} {Q : Value → Shared → Prop}
theorem clip_toNat (n : Nat) {a : Int} (h : 0 ≤ a) : clipAt n a = min a.toNat n := by
 have := clipAt_nat n a.toNat
 rwa [Int.toNat_of_nonneg h] at this
theorem clip_lo (n : Nat) {lo : Option Int} (h : 0 ≤ lo.getD 0) : lo.elim 0 (clipAt n) = min (lo.getD 0).toNat n := by
 cases lo with
 | none => simp
 | some a => simpa using clip_toNat n (by simpa using h)
theorem drop_min {α : Type} (vs : List α) (a : Nat) : vs.drop (min a vs.length) = vs.drop a := by
 rcases Nat.le_total a vs.length with q | q
 ·rw [Nat.min_eq_left q]
 ·rw [Nat.min_eq_right q, List.drop_of_length_le (Nat.le_refl _), List.drop_of_length_le q]
theorem cut_nat {α : Type} (l : List α) (a b : Nat) : (l.drop a).take (min b l.length - min a l.length) = (l.take b).drop a := by
 rw [List.drop_take, List.take_eq_take_iff, List.length_drop]
 rcases Nat.le_total l.length a with h | h
 ·rw [Nat.sub_eq_zero_of_le h, Nat.min_zero, Nat.min_zero]
 ·rw [Nat.min_eq_left h]
  rcases Nat.le_total b l.length with q | q
  ·rw [Nat.min_eq_left q]
  ·rw [Nat.min_eq_right q, Nat.min_self, Nat.min_eq_right (Nat.sub_le_sub_right q a)]
theorem if_someP {α : Type} {p : Prop} [Decidable p] {o : Option α} {x : α} (h : (if p then o else none) = some x) : p ∧ o = some x := by
 by_cases q : p
 ·rw [if_pos q] at h; exact ⟨q, h⟩
 ·rw [if_neg q] at h; exact nn h
theorem pick_cut {vs : List Value} {xs ys : List V} {lo hi : Option Int} (r : RelVs ι S s.heap vs xs) (e : cutL xs lo hi = some ys) : ∃ ws, slicePick vs.toArray lo hi none = ws.toArray ∧ RelVs ι S s.heap ws ys := by
 obtain ⟨⟨h1, h2⟩, e⟩ := if_someP e
 refine ⟨_, slicePick_plain _ _ _, ?_⟩
 rw [List.size_toArray, clip_lo _ h1, drop_min]
 cases e
 cases hi with
 | none =>
  have q : (vs.drop (lo.getD 0).toNat).take (vs.length - min (lo.getD 0).toNat vs.length) = vs.drop (lo.getD 0).toNat := List.take_of_length_le (by rw [List.length_drop]; exact Nat.sub_le_sub_left (Nat.min_le_left _ _) _)
  exact q.symm ▸ r.drop (lo.getD 0).toNat
 | some b =>
  have q : (vs.drop (lo.getD 0).toNat).take (clipAt vs.length b - min (lo.getD 0).toNat vs.length) = (vs.take b.toNat).drop (lo.getD 0).toNat := by rw [clip_toNat _ (show 0 ≤ b from h2), cut_nat]
  exact q.symm ▸ (r.take b.toNat).drop (lo.getD 0).toNat
theorem slice_pre {o x : V} {vo vl vu vst : Value} {value slice : Expr} (R : Rel c ι S μ s) (ro : RelV ι S s.heap vo o) (hq : PostV c ι S s.heap μ x Q)
  (H : ∀ (s₀ : Shared) (sl : Addr), Rel c ι S μ s₀ → RelV ι S s₀.heap vo o → s₀.heap.IsSliceOf sl vl vu vst → PostV c ι S s₀.heap μ x Q → wpAny (model c.prog c.w) A (subscriptTail value slice vo (.ref sl)) Q E s₀) :
  wpAny (model c.prog c.w) A (subscriptTail value slice vo (.ref s.heap.objs.size)) Q E { s with heap := s.heap.push { cls := .type "slice", data := .fields #[vl, vu, vst] } } :=
 have E0 : Ext [] ι s.heap ι (s.heap.push { cls := .type "slice", data := .fields #[vl, vu, vst] }) := Ext.of_keeps (push_keeps _ _)
 H { s with heap := s.heap.push { cls := .type "slice", data := .fields #[vl, vu, vst] } } _ (R.keeps (push_keeps _ _) rfl rfl) (ro.mono E0 nofun) (Heap.IsSliceOf.new ..) (hq.step E0)
end
/-- a slice -/
noncomputable def sliceV (o : V) (lo hi : Option Int) (rev : Bool) (μ : Mem) (q : V → Prop) : Prop := ∀ ⦃c A E s ι S vo vl vu vst Q value slice⦄, Rel c ι S μ s → RelV ι S s.heap vo o → IsPart vl lo → IsPart vu hi → IsPart vst (if rev then some (-1) else none) → (∀ x, q x → PostV c ι S s.heap μ x Q) →
 wpAny (model c.prog c.w) A (subscriptTail value slice vo (.ref s.heap.objs.size)) Q E { s with heap := s.heap.push { cls := .type "slice", data := .fields #[vl, vu, vst] } }
section
variable {μ : Mem} {Q : V → Prop} {vs ws : List V} {c : V} {lo hi : Option Int}
theorem w_slT {a : Int} (hl : vs.length < limit) (ha : 1 ≤ a ∧ a ≤ vs.length) (q : Q (.tup (vs.drop a.toNat))) : WS (sliceV (.tup vs) (some a) none false μ) Q := by
 intro c A E s ι S vo vl vu vst F va sl R ro pl pu ps K
 rw [limit_eq] at hl
 refine slice_pre R ro (K _ q) fun s₀ sl R ro hs hq => ?_
 refine ro.tupI (P := fun z => wpAny _ _ (subscriptTail _ _ z _) _ _ _) fun x us p _ _ r => ?_
 have l := r.length
 cases pl with
 | int i t =>
  cases pu
  cases ps
  obtain ⟨k, rfl⟩ : ∃ k : Nat, a = k := ⟨a.toNat, by lia⟩
  refine tail_V p.typeIs PySem.F.slot_tuple_getitem.lookup (PyProof.Rows.getItem_tuple_from p.isTup hs (by lia) (by simp; lia) ?_ (by simp [sizeLine_val]; lia))
  exact hq.newTup (vs := us.drop k) R (r.drop k) s₀.toks
theorem w_slTR (hl : vs.length < limit) (q : Q (.tup vs.reverse)) : WS (sliceV (.tup vs) none none true μ) Q := by
 intro c A E s ι S vo vl vu vst F va sl R ro pl pu ps K
 rw [limit_eq] at hl
 refine slice_pre R ro (K _ q) fun s₀ sl R ro hs hq => ?_
 refine ro.tupI (P := fun z => wpAny _ _ (subscriptTail _ _ z _) _ _ _) fun x us p _ _ r => ?_
 have l := r.length
 cases pl
 cases pu
 cases ps
 exact tail_V p.typeIs PySem.F.slot_tuple_getitem.lookup (getItem_tuple_rev p.isTup hs (hq.newTup (vs := us.reverse) R r.reverse s₀.toks) (by simp [sizeLine_val]; lia))
theorem w_slL (hc : listOf c μ = some vs) (hl : vs.length < limit) (e : cutL vs lo hi = some ws) (q : Q (.lst ws)) : WS (sliceV c lo hi false μ) Q := by
 intro c A E s ι S vo vl vu vst F va sl R ro pl pu ps K
 rw [limit_eq] at hl
 refine slice_pre R ro (K _ q) fun s₀ sl R ro hs hq => ?_
 obtain ⟨a, us, rfl, p, r⟩ := list_of R ro hc
 obtain ⟨ys, hw, rw'⟩ := pick_cut r e
 have l := r.length
 refine tail_V p.typeIs PySem.F.slot_list_getitem.lookup (wpAny_getItem_list_slice p.isList hs pl pu ps (by decide) ?_ (by simp [sizeLine_val]; lia))
 rw [show (if false = true then some (-1 : Int) else none) = none from rfl, hw]
 exact hq.newLst R rw' s₀.toks
theorem w_slLR (hc : listOf c μ = some vs) (hl : vs.length < limit) (q : Q (.lst vs.reverse)) : WS (sliceV c none none true μ) Q := by
 intro c A E s ι S vo vl vu vst F va sl R ro pl pu ps K
 rw [limit_eq] at hl
 refine slice_pre R ro (K _ q) fun s₀ sl R ro hs hq => ?_
 obtain ⟨a, us, rfl, p, r⟩ := list_of R ro hc
 have l := r.length
 refine tail_V p.typeIs PySem.F.slot_list_getitem.lookup (wpAny_getItem_list_slice p.isList hs pl pu ps (by decide) ?_ (by simp [sizeLine_val]; lia))
 rw [show (if true = true then some (-1 : Int) else none) = some (-1) from rfl, PySem.W.krv_pick]
 exact hq.newLst (vs := us.reverse) R r.reverse s₀.toks
theorem cutL_to {b : Int} (hb : 0 ≤ b) : cutL vs none (some b) = some (vs.take b.toNat) := if_pos ⟨Int.le_refl 0, hb⟩
theorem cutL_from {a : Int} (ha : 0 ≤ a) : cutL vs (some a) none = some (vs.drop a.toNat) := if_pos ⟨ha, Int.le_refl 0⟩
end
end Mine
set_option tactic.hygienic false
namespace Mine
open PySem.SeqAt
section
variable {c : Cx} {A : Around} {E : Value → Shared → Prop} {s : Shared} {ι : Own} {S : List Addr} {μ : Mem} {x : V} {a : Addr} {xs ys : List V} {vs ws : List Value}
theorem list_upd {f : Array Value → Array Value} (n : Nat) (R : Rel c ι S μ s) (hn : ι[n]? = some (a, none)) (p : PL s.heap a vs) (hf : f vs.toArray = ws.toArray) (r : RelVs ι S s.heap ws ys) (tk : Nat) :
  Rel c ι S (μ.set n (.lst ys)) { s with heap := s.heap.update a (Obj.mapSeq f), toks := tk } ∧ Ext [] ι s.heap ι (s.heap.update a (Obj.mapSeq f)) := by
 obtain ⟨k, e⟩ := p
 have hs : Heap.SameBut a s.heap (s.heap.update a (Obj.mapSeq f)) := Heap.SameBut.update ..
 have hget := Heap.get?_update_self (Obj.mapSeq f) e (by simp [Obj.mapSeq, Obj.isFreed])
 refine R.set (s' := { s with heap := s.heap.update a (Obj.mapSeq f), toks := tk }) hn (fun b ob hb e => (hs.2 b (fun q => hb (by rw [q]; exact .head _))).trans e) (live_but hs hget) rfl rfl fun E => ?_
 refine .lst ?_ (r.mono E fun _ h => nomatch h)
 refine ⟨(if ws.toArray.size == vs.toArray.size then k else k + 1), ?_⟩
 show (s.heap.update a (Obj.mapSeq f)).get? a = _
 rw [Heap.get?_update_self _ e (by simp [Obj.mapSeq, Obj.isFreed])]
 simp only [Obj.mapSeq, hf]
theorem RelVs.push {v : Value} {x : V} (r : RelVs ι S s.heap vs xs) (rv : RelV ι S s.heap v x) : RelVs ι S s.heap (vs ++ [v]) (xs ++ [x]) := r.append (.cons rv .nil)
theorem setItem_lst {Q : Unit → Shared → Prop} (n : Nat) {i : Int} {t : Tok} {v : Value} (R : Rel c ι S μ s) (hn : ι[n]? = some (a, none)) (hm : μ[n]? = some (.lst xs)) (h0 : 0 ≤ i) (h1 : i < xs.length) (hz : xs.length < limit) (rv : RelV ι S s.heap v x)
  (hq : ∀ s', Ext [] ι s.heap ι s'.heap → Rel c ι S (μ.set n (.lst (xs.set i.toNat x))) s' → Q () s') : wpAny (model c.prog c.w) A (setItem (.ref a) (.int i t) v) Q E s := by
 refine R.lstO hn hm fun _ p r => ?_
 rename_i vs
 have hl := r.length
 rw [limit_eq] at hz
 have hT := p.typeIs
 obtain ⟨k, e⟩ := id p
 unfold setItem
 refine wpAny_holding ?_
 refine wpAny_bind (wpAny_sequenceKey hT (by decide) ?_)
 refine wpAny_bind (wpAny_callSpecial?_slot (name := Str.ofString "__setitem__") hT slot_list_setitem
  (wpAny_call_entry slot_list_setitem hT entry_list_setitem ?_ (args_list_setitem _ _ _)))
 show wpAny _ _ (Builtin.List.listSubscript? (.int i t) >>= _) _ _ s
 refine wpAny_bind (wpAny_listSubscript_int (fitsIndex_of h0 (by lia)) ?_)
 obtain ⟨j, rfl⟩ := Int.eq_ofNat_of_zero_le h0
 have hj : j < vs.toArray.size := by simp; lia
 have hx' : vs.toArray[j]? = some vs.toArray[j] := Array.getElem?_eq_getElem hj
 show wpAny _ _ ((seqItemAt a j >>= fun r => pure (r.map (j, ·))) >>= _) _ _ s
 refine wpAny_bind (wpAny_bind (wpAny_seqItemAt e rfl (wpAny_pure ?_)))
 rw [hx']
 show wpAny _ _ (setSeqItemAt a j v >>= _) _ _ s
 obtain ⟨R', E'⟩ := list_upd (f := (·.setIfInBounds j v)) (ws := vs.set j v) n R hn p (by simp) (r.set j rv) s.toks
 refine wpAny_bind (wpAny_setSeqItemAt e rfl ?_)
 have hq' := hq { s with heap := s.heap.update a (Obj.mapSeq (·.setIfInBounds j v)) } E' R'
 first
  | exact wpAny_bind (wpAny_pure (wpAny_pure ⟨.none, rfl, wpAny_pure hq'⟩))
  | exact wpAny_pure ⟨.none, rfl, wpAny_pure hq'⟩
theorem append_lst {Q : Value → Shared → Prop} (n : Nat) {v : Value} (R : Rel c ι S μ s) (hn : ι[n]? = some (a, none)) (hm : μ[n]? = some (.lst xs)) (hz : xs.length < limit) (rv : RelV ι S s.heap v x)
  (hq : PostV c ι S s.heap (μ.set n (.lst (xs ++ [x]))) .none Q) : wpAny (model c.prog c.w) A (call (.builtin "list.append") [.ref a, v]) Q E s := by
 refine R.lstO hn hm fun _ p r => ?_
 rename_i vs
 have hl := r.length
 rw [limit_eq] at hz
 have hT := p.typeIs
 obtain ⟨k, e⟩ := id p
 obtain ⟨R', E'⟩ := list_upd (f := (·.push v)) (ws := vs ++ [v]) n R hn p (by simp) (r.push rv) s.toks
 exact call_meets slot_list_append hT entry_list_append (args_list_append _ _) (list_append a vs.toArray k v (by simp [sizeLine_val]; lia)) ⟨e, hq _ _ _ E' R' .none⟩
theorem pop_lst {Q : Value → Shared → Prop} (n : Nat) (R : Rel c ι S μ s) (hn : ι[n]? = some (a, none)) (hm : μ[n]? = some (.lst xs)) (hz : xs.length < limit) (hx : xs.getLast? = some x)
  (hq : PostV c ι S s.heap (μ.set n (.lst xs.dropLast)) x Q) : wpAny (model c.prog c.w) A (call (.builtin "list.pop") [.ref a]) Q E s := by
 refine R.lstO hn hm fun _ p r => ?_
 rename_i vs
 have hl := r.length
 rw [limit_eq] at hz
 have hT := p.typeIs
 obtain ⟨k, e⟩ := id p
 rw [List.getLast?_eq_getElem?] at hx
 obtain ⟨v, hv, rv⟩ := r.get hx
 rw [← hl] at hv
 have hlt := (List.getElem?_eq_some_iff.mp hv).1
 have hr : RelVs ι S s.heap vs.dropLast xs.dropLast := by rw [List.dropLast_eq_take, List.dropLast_eq_take, hl]; exact r.take _
 obtain ⟨R', E'⟩ := list_upd (f := fun xs => xs.eraseIdxIfInBounds (vs.toArray.size - 1)) (ws := vs.dropLast) n R hn p (by
  have : vs.length - 1 < vs.length := by assumption
  simp [Array.eraseIdxIfInBounds, this, List.eraseIdx_length_sub_one]) hr s.toks
 exact call_meets F.slot_list_pop hT F.entry_list_pop (F.args_list_pop_1 _) (MeetsSeq.list_pop_last a vs.toArray k v (by simpa using hv) (by simp [sizeLine_val]; lia)) ⟨e, hq _ _ _ E' R' (rv.mono E' fun _ h => nomatch h)⟩
theorem extend_lst {Q : Value → Shared → Prop} {y : V} (n : Nat) {v : Value} (R : Rel c ι S μ s) (hn : ι[n]? = some (a, none)) (hm : μ[n]? = some (.lst xs)) (hy : listOf y μ = some ys) (hz : xs.length + ys.length < limit) (rv : RelV ι S s.heap v y)
  (hq : PostV c ι S s.heap (μ.set n (.lst (xs ++ ys))) .none Q) : wpAny (model c.prog c.w) A (call (.builtin "list.extend") [.ref a, v]) Q E s := by
 refine R.lstO hn hm fun _ p r => ?_
 rename_i vs
 obtain ⟨b, ws, rfl, ⟨k2, e2⟩, r2⟩ := list_of R rv hy
 have hl := r.length
 have hl2 := r2.length
 rw [limit_eq] at hz
 have hT := p.typeIs
 obtain ⟨k, e⟩ := id p
 obtain ⟨R', E'⟩ := list_upd (f := fun x => x ++ ws.toArray) (ws := vs ++ ws) n R hn p (by simp) (r.append r2) s.toks
 refine call_meets F.slot_list_extend hT F.entry_list_extend (F.args_list_extend_2 _ _) (AutoSeq1.list_extend_list_list_0 a vs.toArray k b ws.toArray k2 ?_ (by simp [sizeLine_val]; lia) (by simp [sizeLine_val]; lia)) ⟨e, e2, hq _ _ _ E' R' .none⟩
 have : ¬ (vs.length + ws.length > sizeLine) := by rw [sizeLine_val]; lia
 simp [Builtin.List.listTooLong, this]
theorem keep_take {α : Type} : ∀ (vs : List α) (m a n : Nat) (_ : n = m + vs.length), (vs.zipIdx m).filterMap (fun p => if (decide ((a : Int) ≤ (p.2 : Int)) && decide ((p.2 : Int) < (n : Int)) && ((p.2 : Int) - (a : Int)) % 1 == 0) = true then none else some p.1) = vs.take (a - m)
 | [], _, _, _, _ => by simp
 | v :: r, m, a, n, hn => by
  rw [List.length_cons] at hn
  have hn' : n = (m + 1) + r.length := by rw [hn, Nat.add_right_comm]; rfl
  have ih := keep_take r (m + 1) a n hn'
  rw [List.zipIdx_cons, List.filterMap_cons]
  have hmn : (m : Int) < n := Int.ofNat_lt.mpr (by rw [hn']; exact Nat.le_add_right _ _)
  by_cases h : a ≤ m
  ·have h' : (a : Int) ≤ m := by exact Int.ofNat_le.mpr (by assumption)
   simp only [Int.emod_one, beq_self_eq_true, Bool.and_true, h', hmn, decide_true, if_true]
   simp only [Int.emod_one, beq_self_eq_true, Bool.and_true] at ih
   rw [ih, Nat.sub_eq_zero_of_le (Nat.le_succ_of_le h), Nat.sub_eq_zero_of_le h]; rfl
  ·have h' : ¬ (a : Int) ≤ m := fun q => h (Int.ofNat_le.mp q)
   simp only [Int.emod_one, beq_self_eq_true, Bool.and_true, h', hmn, decide_false, Bool.false_and, Bool.false_eq_true, if_false]
   simp only [Int.emod_one, beq_self_eq_true, Bool.and_true] at ih
   rw [ih, show a - m = (a - (m + 1)) + 1 from (Nat.sub_add_cancel (Nat.sub_pos_of_lt (Nat.lt_of_not_le h))).symm, List.take_succ_cons]
noncomputable def cutAt (j n : Nat) (xs : Array Value) : Array Value := (xs.toList.zipIdx.filterMap fun p => if (decide ((j : Int) ≤ (p.2 : Int)) && decide ((p.2 : Int) < (n : Int)) && ((p.2 : Int) - (j : Int)) % 1 == 0) = true then none else some p.1).toArray
theorem delSlice_lst {Q : Unit → Shared → Prop} (n : Nat) {i : Int} {t : Tok} {sl : Addr} (R : Rel c ι S μ s) (hn : ι[n]? = some (a, none)) (hm : μ[n]? = some (.lst xs)) (h0 : 0 ≤ i) (h1 : i ≤ xs.length) (hz : xs.length < limit) (hs : s.heap.IsSliceOf sl (.int i t) .none .none)
  (hq : ∀ s', Ext [] ι s.heap ι s'.heap → Rel c ι S (μ.set n (.lst (xs.take i.toNat))) s' → Q () s') : wpAny (model c.prog c.w) A (delItem (.ref a) (.ref sl)) Q E s := by
 refine R.lstO hn hm fun _ p r => ?_
 rename_i vs
 have hl := r.length
 rw [limit_eq] at hz
 have hT := p.typeIs
 obtain ⟨k, e⟩ := id p
 obtain ⟨os, hos, hcs, hds⟩ := id hs
 have hTs : s.TypeIs (.ref sl) "slice" := ⟨os, hos, hcs⟩
 obtain ⟨j, rfl⟩ := Int.eq_ofNat_of_zero_le h0
 refine wpAny_delItem_slot hT (by decide) F.slot_list_delitem (wpAny_call_entry F.slot_list_delitem hT F.entry_list_delitem ?_ (F.args_list_delitem_2 _ _))
 show wpAny _ _ (Builtin.List.listSubscript? (.ref sl) >>= _) _ _ s
 refine wpAny_bind ?_
 unfold Builtin.List.listSubscript?
 refine wpAny_bind (wpAny_specialOf hTs slice_no_index ?_)
 refine wpAny_ite_true rfl (wpAny_pure ?_)
 show wpAny _ _ (typeOf (.ref sl) >>= _) _ _ s
 refine wpAny_bind (wpAny_typeOf hTs (wpAny_ite_false (by decide) ?_))
 rw [listSliceParts_eq]
 refine wpAny_bind (wpAny_bind (wpAny_field hos hds (x := .none) rfl (wpAny_bind (wpAny_listPart .none ?_))))
 refine wpAny_ite_false rfl ?_
 refine wpAny_bind (wpAny_field hos hds (x := .int (j : Int) t) rfl (wpAny_bind (wpAny_listPart (.int _ _) ?_)))
 refine wpAny_bind (wpAny_field hos hds (x := .none) rfl (wpAny_bind (wpAny_listPart .none (wpAny_pure ?_))))
 refine wpAny_bind (m := Builtin.List.listItems (.ref a)) ?_
 unfold Builtin.List.listItems
 refine wpAny_bind (wpAny_seqItems e rfl (wpAny_pure ?_))
 refine wpAny_bind (wpAny_of_eq (sliceIndices_raw (some (j : Int)) none none vs.toArray.size (by simp)) ?_)
 have hb : sliceBounds (some (j : Int)) none none vs.toArray.size = ((j : Int), (vs.length : Int), 1) := by
  rw [sliceBounds_plain]
  have : min j vs.length = j := by lia
  simp [clipAt_nat, this]
 rw [hb]
 have key : cutAt j vs.length vs.toArray = (vs.take j).toArray := by
  have := keep_take vs 0 j vs.length (by simp)
  simp only [Nat.sub_zero] at this
  exact congrArg List.toArray this
 obtain ⟨R', E'⟩ := list_upd (f := cutAt j vs.length) n R hn p key (r.take j) s.toks
 have hz1 : vs.toArray.size ≤ sizeLine := by rw [sizeLine_val]; simp; lia
 have hz2 : (cutAt j vs.length vs.toArray).size ≤ sizeLine + 1 := by
  rw [key, sizeLine_val]; simp; lia
 refine wpAny_bind (wpAny_rule (wpAny_bind (m := updateSeq a _) (wpAny_updateSeq (f := cutAt j vs.length) e rfl ?_ hz1 hz2)))
 exact wpAny_bind (wpAny_letGo (wpAny_pure ⟨.none, rfl, hq _ E' R'⟩))
end
end Mine
set_option tactic.hygienic true
set_option tactic.hygienic false
namespace Mine
open PySem.SeqAt
open PyProof.Rows (IntsAre sortedAll sortedHeap seqObj)
section
variable {ι : Own} {S : List Addr} {h : Heap}
theorem ints_are : ∀ {vs : List Value} {xs : List V} {is : List Int}, RelVs ι S h vs xs → ints? xs = some is → IntsAre vs is
 | _, _, _, .nil, e => by cases e; exact .nil
 | _, _, _, .cons (x := x) a r, e => by
  cases x <;> simp [ints?] at e
  obtain ⟨js, e1, rfl⟩ := e
  cases a
  exact .cons _ _ (ints_are r e1)
theorem rel_ints : ∀ {vs : List Value} {is : List Int}, IntsAre vs is → RelVs ι S h vs (is.map V.int)
 | _, _, .nil => .nil
 | _, _, .cons n t r => .cons (.int n t) (rel_ints r)
theorem ints_length : ∀ {xs : List V} {is : List Int}, ints? xs = some is → is.length = xs.length
 | [], _, e => by cases e; rfl
 | x :: r, _, e => by
  cases x <;> simp [ints?] at e
  obtain ⟨js, e1, rfl⟩ := e
  simp [ints_length e1]
theorem itemsAre_rel (vs : List Value) (is : List Int) (hl : vs.length = is.length) (hi : ∀ j v, vs[j]? = some v → ∃ t, v = Value.int (is.getD j 0) t) : RelVs ι S h vs (is.map V.int) := by
 induction vs generalizing is with
 | nil => cases is with
  | nil => exact .nil
  | cons => simp at hl
 | cons v r ih => cases is with
  | nil => simp at hl
  | cons i is =>
   obtain ⟨t, rfl⟩ := hi 0 v (by simp)
   exact .cons (.int _ _) (ih is (by simpa using hl) fun j v hv => by simpa using hi (j + 1) v (by simpa using hv))
end
theorem insI_perm (i : Int) : ∀ l : List Int, (insI i l).Perm (i :: l)
 | [] => .refl _
 | j :: r => by
  unfold insI
  split
  ·exact .refl _
  ·exact ((insI_perm i r).cons j).trans (.swap i j r)
theorem insI_sorted (i : Int) : ∀ l : List Int, l.Pairwise (· ≤ ·) → (insI i l).Pairwise (· ≤ ·)
 | [], _ => by simp [insI]
 | j :: r, h => by
  unfold insI
  split
  ·rename_i hij
   refine List.pairwise_cons.mpr ⟨fun x hx => ?_, h⟩
   rcases List.mem_cons.mp hx with rfl | hx
   ·exact hij
   ·exact Int.le_trans hij ((List.pairwise_cons.mp h).1 x hx)
  ·rename_i hij
   refine List.pairwise_cons.mpr ⟨fun x hx => ?_, insI_sorted i r (List.pairwise_cons.mp h).2⟩
   rcases List.mem_cons.mp ((insI_perm i r).mem_iff.mp hx) with rfl | hx
   ·lia
   ·exact (List.pairwise_cons.mp h).1 x hx
theorem sortI_perm : ∀ l : List Int, (sortI l).Perm l
 | [] => .refl _
 | i :: r => (insI_perm i (sortI r)).trans ((sortI_perm r).cons i)
theorem sortI_sorted : ∀ l : List Int, (sortI l).Pairwise (· ≤ ·)
 | [] => .nil
 | i :: r => insI_sorted i _ (sortI_sorted r)
theorem sortI_unique {l m : List Int} (p : m.Perm l) (s : m.Pairwise (· ≤ ·)) : m = sortI l :=
 List.Perm.eq_of_pairwise (fun _ _ _ _ => Int.le_antisymm) s (sortI_sorted l) (p.trans (sortI_perm l).symm)
section
variable {c : Cx} {A : Around} {E : Value → Shared → Prop} {s : Shared} {ι : Own} {S : List Addr} {μ : Mem} {x : V} {xs ys : List V} {vs ws : List Value} {Q : Value → Shared → Prop}
/-- a fresh list behind some steps -/
theorem PostV.freshLst {h' : Heap} {a : Addr} {tk : Nat} (hq : PostV c ι S s.heap μ (.lst xs) Q) (R : Rel c ι S μ s) (k : ∀ b o, s.heap.get? b = some o → h'.get? b = some o) (ha : s.heap.get? a = none) (p : PL h' a vs) (r : RelVs ι S s.heap vs xs) :
  Q (.ref a) { s with heap := h', toks := tk } := by
 have E : Ext [] ι s.heap ι h' := Ext.of_keeps k
 exact hq _ ι { s with heap := h', toks := tk } E (R.keeps k rfl rfl) (.lst p (fun q => R.alive _ q ha) (fun q => R.bound _ q ha) (r.mono E fun _ h => nomatch h))
theorem PostV.freshTup {h' : Heap} {a : Addr} {tk : Nat} (hq : PostV c ι S s.heap μ (.tup xs) Q) (R : Rel c ι S μ s) (k : ∀ b o, s.heap.get? b = some o → h'.get? b = some o) (ha : s.heap.get? a = none) (p : PT h' a vs) (r : RelVs ι S s.heap vs xs) :
  Q (.ref a) { s with heap := h', toks := tk } := by
 have E : Ext [] ι s.heap ι h' := Ext.of_keeps k
 exact hq _ ι { s with heap := h', toks := tk } E (R.keeps k rfl rfl) (.tup p (fun q => R.alive _ q ha) (fun q => R.bound _ q ha) (r.mono E fun _ h => nomatch h))
theorem PostV.freshRef {h' : Heap} {a : Addr} {tk : Nat} (hq : PostV c ι S s.heap (μ ++ [.lst xs]) (.ref μ.length) Q) (R : Rel c ι S μ s) (k : ∀ b o, s.heap.get? b = some o → h'.get? b = some o) (ha : s.heap.get? a = none) (p : PL h' a vs) (r : RelVs ι S s.heap vs xs) :
  Q (.ref a) { s with heap := h', toks := tk } := by
 obtain ⟨R', E'⟩ := R.alloc (s' := { s with heap := h', toks := tk }) (p := (a, none)) (o := .lst xs) k rfl rfl
  (fun b hb => (List.mem_singleton.mp hb).symm ▸ ha) (List.nodup_cons.mpr ⟨List.not_mem_nil, List.nodup_nil⟩) (fun E => .lst p (r.mono E fun _ h => nomatch h))
 exact hq _ _ _ E' R' (.ref (d := none) (by rw [← R.len]; exact List.getElem?_concat_length))
theorem PostV.kept {h' : Heap} {v : Value} {tk : Nat} (hq : PostV c ι S s.heap μ x Q) (R : Rel c ι S μ s) (k : ∀ b o, s.heap.get? b = some o → h'.get? b = some o) (r : RelV ι S s.heap v x) :
  Q v { s with heap := h', toks := tk } := by
 have E : Ext [] ι s.heap ι h' := Ext.of_keeps k
 exact hq _ ι { s with heap := h', toks := tk } E (R.keeps k rfl rfl) (r.mono E fun _ h => nomatch h)
theorem len_V {v : Value} {y : V} (R : Rel c ι S μ s) (r : RelV ι S s.heap v y) (e : itemsOf y μ = some xs) (hz : xs.length < limit) (hq : PostV c ι S s.heap μ (.int xs.length) Q) : wpAny (model c.prog c.w) A (call (.builtin "len") [v]) Q E s := by
 rw [limit_eq] at hz
 have lst : ∀ {a : Addr} {vs : List Value}, PL s.heap a vs → RelVs ι S s.heap vs xs → wpAny (model c.prog c.w) A (call (.builtin "len") [.ref a]) Q E s := fun p r => by
  have hl := r.length
  refine Calls.call_len_list p.isList (by rw [List.size_toArray, hl]; lia) ?_
  rw [List.size_toArray, hl]
  exact hq.now R (.int _ _) _
 have tup : ∀ {a : Addr} {vs : List Value}, PT s.heap a vs → RelVs ι S s.heap vs xs → wpAny (model c.prog c.w) A (call (.builtin "len") [.ref a]) Q E s := fun p r => by
  refine PyProof.Rows.len_tuple p.isTup (by rw [List.size_toArray, r.length]; lia) ?_
  rw [List.size_toArray, r.length]
  exact hq.now R (.int _ _) _
 cases y with
 | tup ys => exact r.tupI (P := fun v => wpAny _ _ (call (.builtin "len") [v]) _ _ _) fun a us p n1 n2 r => tup p (Option.some.inj e ▸ r)
 | lst ys => exact r.seqI (P := fun v => wpAny _ _ (call (.builtin "len") [v]) _ _ _) fun a us p n1 n2 r => lst p (Option.some.inj e ▸ r)
 | ref k => exact r.refI (P := fun v => wpAny _ _ (call (.builtin "len") [v]) _ _ _) fun a d hi => R.lstO hi (of_lstAt e) fun us p r => lst p r
 | _ => exact nn e
theorem list_lst {a : Addr} (R : Rel c ι S μ s) (p : PL s.heap a vs) (r : RelVs ι S s.heap vs xs) (hz : xs.length < limit) (hq : PostV c ι S s.heap (μ ++ [.lst xs]) (.ref μ.length) Q) : wpAny (model c.prog c.w) A (call (.type "list") [.ref a]) Q E s := by
 rw [limit_eq] at hz
 have hl := r.length
 obtain ⟨n, e⟩ := p
 refine call_list_seq a (.inl rfl) e rfl rfl (fun h' c' k hg => ?_) (by simp [sizeLine_val]; lia)
 exact hq.freshRef R k (get_size _) ⟨_, hg⟩ r
theorem range_size (lo hi : Int) : Builtin.Range.rangeSize lo hi 1 = ((hi - lo).toNat : Int) := by
 unfold Builtin.Range.rangeSize
 rw [if_pos (by decide)]
 split
 ·rw [Int.ediv_one]; lia
 ·lia
theorem fit_long {i : Int} (h : -(2 ^ 62) < i ∧ i < 2 ^ 62) : Builtin.Range.rangeFitsLong i = true := Bool.and_eq_true_iff.mpr ⟨decide_eq_true (Int.le_of_lt (Int.lt_trans (by decide) h.1)), decide_eq_true (Int.lt_trans h.2 (by decide))⟩
theorem rng_small {lo hi : Int} (h1 : -(2 ^ 62) < lo ∧ lo < 2 ^ 62) (h2 : -(2 ^ 62) < hi ∧ hi < 2 ^ 62) (h3 : (hi - lo).toNat < 1048576) : Builtin.Range.small lo hi 1 = true := by
 have e : Builtin.Range.rangeFitsLong ((hi - lo).toNat : Int) = true := fit_long ⟨Int.lt_of_lt_of_le (by decide) (Int.natCast_nonneg _), Int.lt_trans (Int.ofNat_lt.mpr h3) (by decide)⟩
 unfold Builtin.Range.small
 rw [range_size, e, fit_long h1, fit_long h2, show hi + (1 - 1) = hi from Int.add_zero hi, fit_long h2]
 exact Bool.or_true _
theorem list_rng {a : Addr} {lo hi : Int} {t u v : Tok} (hh : A.handled = none) (R : Rel c ι S μ s) (p : IsRange s.heap a lo hi 1 t u v) (ho : okRng lo hi = true) (hq : PostV c ι S s.heap (μ ++ [.lst (rngItems lo hi)]) (.ref μ.length) Q) :
  wpAny (model c.prog c.w) A (call (.type "list") [.ref a]) Q E s := by
 have h3 : (hi - lo).toNat < 1048576 := limit_eq ▸ of_decide_eq_true (aR ho)
 have h1 := small_lt (aL (aL ho))
 have h2 := small_lt (aR (aL ho))
 refine call_list_range hh p (rng_small h1 h2 h3) (range_size lo hi) (by exact Nat.le_trans (Nat.le_of_lt (by assumption)) (by decide)) fun h' tk acc' c' k hg hi => ?_
 refine hq.freshRef R k (get_size _) (vs := acc'.toList) ⟨c', by simpa using hg⟩ ?_
 have := itemsAre_rel (ι := ι) (S := S) (h := s.heap) acc'.toList ((List.range (_ : Nat)).map fun (i : Nat) => lo + (i : Int)) (by simpa using hi.1) fun j v hv => by
  have hv' : acc'[j]? = some v := by simpa using hv
  obtain ⟨t, rfl⟩ := hi.2 j v hv'
  have hj : j < acc'.size := (Array.getElem?_eq_some_iff.mp hv').1
  rw [hi.1] at hj
  exact ⟨t, by simp [List.getD_eq_getElem?_getD, hj]⟩
 rw [List.map_map] at this
 exact this
theorem tuple_lst {a : Addr} (R : Rel c ι S μ s) (p : PL s.heap a vs) (r : RelVs ι S s.heap vs xs) (hz : xs.length < limit) (hq : PostV c ι S s.heap μ (.tup xs) Q) : wpAny (model c.prog c.w) A (call (.type "tuple") [.ref a]) Q E s := by
 rw [limit_eq] at hz
 have hl := r.length
 refine call_tuple_list p.isList (fun h' k => ?_) (by simp [sizeLine_val]; lia)
 exact hq.freshTup (h' := h'.push { cls := .type "tuple", data := .seq vs.toArray }) R (fun b o e => Heap.get?_push_of_some _ (k b o e)) (none_of_keeps k _ (get_size _)) ⟨0, Heap.get?_push_size _ rfl⟩ r
theorem range_1 {hi : Int} {t : Tok} (R : Rel c ι S μ s) (hq : PostV c ι S s.heap μ (.rng 0 hi) Q) : wpAny (model c.prog c.w) A (call (.type "range") [.int hi t]) Q E s := by
 refine call_range_1 ?_
 have k := push_keeps s.heap { cls := .type "range", data := .fields #[.int 0 s.toks, .int hi t, .int 1 (s.toks + 1)] }
 exact hq _ ι _ (Ext.of_keeps k) (R.keeps k rfl rfl) (.rng (t := s.toks) (u := t) (v := s.toks + 1) (Heap.get?_push_size _ rfl) (not_owned_size R) (not_S_size R))
theorem range_2 {lo hi : Int} {t u : Tok} (R : Rel c ι S μ s) (hq : PostV c ι S s.heap μ (.rng lo hi) Q) : wpAny (model c.prog c.w) A (call (.type "range") [.int lo t, .int hi u]) Q E s := by
 refine call_range_2 ?_
 have k := push_keeps s.heap { cls := .type "range", data := .fields #[.int lo t, .int hi u, .int 1 s.toks] }
 exact hq _ ι _ (Ext.of_keeps k) (R.keeps k rfl rfl) (.rng (t := t) (u := u) (v := s.toks) (Heap.get?_push_size _ rfl) (not_owned_size R) (not_S_size R))
theorem sortedAll_keeps (h : Heap) (vs : List Value) (out : Array Value) : ∀ b o, h.get? b = some o → (sortedAll h vs out).get? b = some o := fun b o e => by
 have hb := Heap.lt_size e
 unfold sortedAll sortedHeap
 have n1 : h.objs.size ≠ b := Nat.ne_of_gt hb
 have n2 : h.objs.size + 1 ≠ b := Nat.ne_of_gt (Nat.lt_succ_of_lt hb)
 rw [Heap.get?_update_other _ _ n2]
 refine Heap.get?_push_of_some _ (Heap.get?_push_of_some _ ?_)
 rw [Heap.get?_update_other _ _ n2]
 refine Heap.get?_push_of_some _ ?_
 rw [Heap.get?_update_other _ _ n1]
 exact Heap.get?_push_of_some _ e
theorem sortedAll_out (h : Heap) (vs : List Value) (out : Array Value) : PL (sortedAll h vs out) (h.objs.size + 1) out.toList := by
 unfold sortedAll sortedHeap
 have e0 : ((h.push (seqObj "list" #[] 0)).update h.objs.size (Obj.mapSeq (· ++ vs.toArray))).objs.size = h.objs.size + 1 := by rw [Heap.size_update, PyProof.Rows.size_push']
 have e1 : (((h.push (seqObj "list" #[] 0)).update h.objs.size (Obj.mapSeq (· ++ vs.toArray))).push (seqObj "list" vs.toArray 0)).get? (h.objs.size + 1) = some (seqObj "list" vs.toArray 0) := by
  rw [← e0]; exact Heap.get?_push_size _ rfl
 have e2 := PyProof.Rows.get?_update_seq e1 fun _ => #[]
 have e3 := Heap.get?_push_of_some (seqObj "list" #[] 0) (Heap.get?_push_of_some (seqObj "tuple" vs.toArray 0) e2)
 have e4 := PyProof.Rows.get?_update_seq e3 fun _ => out
 exact ⟨_, by rw [Array.toArray_toList]; exact e4⟩
theorem sorted_lst {a : Addr} {is : List Int} (R : Rel c ι S μ s) (p : PL s.heap a vs) (r : RelVs ι S s.heap vs xs) (e : ints? xs = some is) (hz : is.length < 64) (hq : PostV c ι S s.heap μ (.lst ((sortI is).map V.int)) Q) :
  wpAny (model c.prog c.w) A (call (.builtin "sorted") [.ref a]) Q E s := by
 have hl := r.length
 refine PyProof.Rows.sorted_ints p.isList (ints_are r e) (by rw [hl, ← ints_length e]; exact hz) fun out ns' h1 h2 h3 => ?_
 rw [← sortI_unique h2 h3] at hq
 refine hq.freshLst (vs := out.toList) (tk := s.toks) R (sortedAll_keeps _ _ _) ?_ (sortedAll_out _ _ _) (rel_ints h1)
 cases q : s.heap.get? (s.heap.objs.size + 1) with
 | none => rfl
 | some o => exact absurd (Heap.lt_size q) (Nat.not_lt.mpr (Nat.le_succ _))
theorem sum_lst {a : Addr} {is : List Int} (hh : A.handled = none) (R : Rel c ι S μ s) (p : PL s.heap a vs) (r : RelVs ι S s.heap vs xs) (e : ints? xs = some is) (hq : PostV c ι S s.heap μ (.int is.sum) Q) :
  wpAny (model c.prog c.w) A (call (.builtin "sum") [.ref a]) Q E s := by
 obtain ⟨ps, ep⟩ := (ints_are r e).allInts.items
 have hn : is = ps.toList.map (·.1) := by rw [← (ints_are r e).numsOf, ← nums_intItems, ← ep]
 have hl := p.isList
 rw [ep] at hl
 refine sum_intListG hh hl fun h' tk t' k => ?_
 rw [preSum_eq, List.take_of_length_le (by simp), ← hn]
 exact hq.kept R k (.int _ _)
theorem foldl_max_mem : ∀ (l : List Int) (i : Int), l.foldl max i ∈ i :: l ∧ ∀ a ∈ i :: l, a ≤ l.foldl max i
 | [], i => by simp
 | j :: r, i => by
  obtain ⟨h1, h2⟩ := foldl_max_mem r (max i j)
  simp only [List.foldl_cons]
  refine ⟨?_, fun a ha => ?_⟩
  ·rcases List.mem_cons.mp h1 with h | h
   ·rw [h]
    rcases Int.le_total i j with q | q
    ·rw [Int.max_eq_right q]; simp
    ·rw [Int.max_eq_left q]; simp
   ·exact .tail _ (.tail _ h)
  ·have hm := h2 (max i j) (.head _)
   rcases List.mem_cons.mp ha with rfl | ha
   ·exact Int.le_trans (Int.le_max_left _ _) hm
   ·rcases List.mem_cons.mp ha with rfl | ha
    ·exact Int.le_trans (Int.le_max_right _ _) hm
    ·exact h2 a (.tail _ ha)
theorem max_lst {a : Addr} {i : Int} {is : List Int} (hh : A.handled = none) (R : Rel c ι S μ s) (p : PL s.heap a vs) (r : RelVs ι S s.heap vs xs) (e : ints? xs = some (i :: is)) (hq : PostV c ι S s.heap μ (.int (is.foldl max i)) Q) :
  wpAny (model c.prog c.w) A (call (.builtin "max") [.ref a]) Q E s := by
 obtain ⟨ps, ep⟩ := (ints_are r e).allInts.items
 have hn : i :: is = ps.toList.map (·.1) := by rw [← (ints_are r e).numsOf, ← nums_intItems, ← ep]
 have hsz : ps.size = is.length + 1 := by have := congrArg List.length hn; simpa using this.symm
 have hl := p.isList
 rw [ep] at hl
 refine max_intList hh hl (by lia) fun v h' tk hv k => ?_
 obtain ⟨t, rfl⟩ := intItems_at hv
 obtain ⟨h1, h2⟩ := argBest_gt (numAt ps) (ps.size - 1)
 have key : numAt ps (argBest (fun i j => decide (numAt ps i > numAt ps j)) (ps.size - 1)) = is.foldl max i := by
  obtain ⟨m1, m2⟩ := foldl_max_mem is i
  apply Int.le_antisymm
  ·apply m2
   rw [numAt_eq, ← hn]
   have : argBest (fun i j => decide (numAt ps i > numAt ps j)) (ps.size - 1) < (i :: is).length := by rw [List.length_cons]; lia
   rw [List.getD_eq_getElem?_getD, List.getElem?_eq_getElem this]
   exact List.getElem_mem this
  ·obtain ⟨j, hj⟩ := List.mem_iff_getElem?.mp m1
   have hjl := (List.getElem?_eq_some_iff.mp hj).1
   have := h2 j (by simp at hjl; lia)
   rw [numAt_eq ps j, ← hn, List.getD_eq_getElem?_getD, hj] at this
   exact this
 rw [key]
 exact hq.kept R k (.int _ _)
theorem max_2 {a b : Int} {t u : Tok} (hh : A.handled = none) (R : Rel c ι S μ s) (hq : PostV c ι S s.heap μ (.int (max a b)) Q) : wpAny (model c.prog c.w) A (call (.builtin "max") [.int a t, .int b u]) Q E s := by
 refine max_two_ints hh fun h' tk k => ?_
 by_cases h : b > a
 ·rw [if_pos h]
  rw [Int.max_eq_right (by solve_by_elim (maxDepth := 4) only [*, Int.natCast_nonneg, Int.le_trans, Int.lt_of_lt_of_le, Int.lt_of_le_of_lt, Int.le_of_lt, Int.not_lt_of_ge, Int.not_le_of_gt])] at hq
  exact hq.kept R k (.int _ _)
 ·rw [if_neg h]
  rw [Int.max_eq_left (by lia)] at hq
  exact hq.kept R k (.int _ _)
end
end Mine
set_option tactic.hygienic true
set_option tactic.hygienic false
namespace Mine
open PySem.SeqAt
open PyProof.Rows (lt_int gt_int le_int)
section
variable {c : Cx} {A : Around} {E : Value → Shared → Prop} {s : Shared} {ι : Own} {S : List Addr} {μ : Mem} {x y : V} {xs ys : List V} {vs ws : List Value} {Q : Value → Shared → Prop} {n : Nat} {v : Value}
theorem rd_flat (R : Rel c ι S μ s) (r : RelV ι S s.heap v x) (e : (flat x μ).pureN (n + 2) = true) : Rd s.heap (n + 2) v (flat x μ) := by
 cases x with
 | ref k =>
  cases q : lstAt μ k with
  | none => exact ff (by rw [show flat (.ref k) μ = .ref k from congrArg (fun o => (o.map V.lst).getD (V.ref k)) q] at e; exact e)
  | some ys =>
   have q2 : flat (.ref k) μ = .lst ys := congrArg (fun o => (o.map V.lst).getD (V.ref k)) q
   rw [q2] at e ⊢
   exact r.refI (P := fun v => Rd s.heap (n + 2) v (.lst ys)) fun a d hi => R.lstO hi (of_lstAt q) fun us p r => .lst p (.of r e)
 | _ => exact .of' r e
theorem rds_flat (R : Rel c ι S μ s) (r : RelVs ι S s.heap vs xs) : (xs.map fun x => flat x μ).all (V.pureN (n + 2)) = true → Rds s.heap (n + 2) vs (xs.map fun x => flat x μ) :=
 r.ind (P := fun vs xs => (xs.map fun x => flat x μ).all (V.pureN (n + 2)) = true → Rds s.heap (n + 2) vs (xs.map fun x => flat x μ)) (fun _ => .nil) fun a _ ih e => have e := Bool.and_eq_true_iff.mp e; .cons (rd_flat R a e.1) (ih e.2)
theorem rd_flat2 (R : Rel c ι S μ s) (r : RelV ι S s.heap v x) (e : (flat2 x μ).pureN (n + 3) = true) : Rd s.heap (n + 3) v (flat2 x μ) := by
 cases x with
 | tup xs => exact r.tupI (P := fun v => Rd s.heap (n + 3) v (.tup (xs.map fun x => flat x μ))) fun a us p _ _ q => .tup p (rds_flat R q e)
 | _ => exact rd_flat R r e
theorem in_lst {v : Value} (hu : A.units + 8 < cLine) (r : RelVs ι S s.heap vs xs) (rv : RelV ι S s.heap v x) (hx : x.pureN 5 = true) (hxs : xs.all (V.pureN 5) = true) :
  ∃ e : Value → Bool, (∀ y, y ∈ vs.toArray → EqAt A.in1 s y v (e y)) ∧ vs.toArray.any e = xs.any (fun y => PyData.eqv y.py x.py) := by
 classical
 have key : (∀ u ∈ vs, ∃ y, Rd s.heap 5 u y) ∧ vs.any (fun u => if q : ∃ y, Rd s.heap 5 u y then PyData.eqv q.choose.py x.py else false) = xs.any fun y => PyData.eqv y.py x.py :=
  r.ind (P := fun vs xs => xs.all (V.pureN 5) = true → (∀ u ∈ vs, ∃ y, Rd s.heap 5 u y) ∧ vs.any (fun u => if q : ∃ y, Rd s.heap 5 u y then PyData.eqv q.choose.py x.py else false) = xs.any fun y => PyData.eqv y.py x.py)
   (fun _ => ⟨List.forall_mem_nil _, rfl⟩) (fun {v y vs xs} a _ ih e => by
    have e := Bool.and_eq_true_iff.mp e
    have q : ∃ y, Rd s.heap 5 v y := ⟨_, .of' a e.1⟩
    refine ⟨List.forall_mem_cons.mpr ⟨q, (ih e.2).1⟩, ?_⟩
    rw [List.any_cons, List.any_cons, (ih e.2).2, dif_pos q, q.choose_spec.uniq (.of' a e.1)]) hxs
 refine ⟨fun u => if q : ∃ y, Rd s.heap 5 u y then PyData.eqv q.choose.py x.py else false, fun u hu' => ?_, (List.any_toArray ..).trans key.2⟩
 have q := key.1 u (List.mem_toArray.mp hu')
 show EqAt A.in1 s u v (if q : ∃ y, Rd s.heap 5 u y then PyData.eqv q.choose.py x.py else false)
 rw [dif_pos q]
 exact eqAt_P (by dsimp only; solve_by_elim (maxDepth := 4) only [*, Nat.le_of_lt, Nat.lt_of_lt_of_le, Nat.lt_of_le_of_lt, Nat.lt_trans, Nat.le_trans, Nat.ne_of_lt, Nat.ne_of_gt]) q.choose_spec (.of' rv hx)
theorem one_low {z : Str} (e : oneLow z = true) : z = ⟨#[z.cps.getD 0 0]⟩ ∧ 97 ≤ z.cps.getD 0 0 ∧ z.cps.getD 0 0 ≤ 122 := by
 unfold oneLow at e
 simp only [Bool.and_eq_true, beq_iff_eq, decide_eq_true_eq] at e
 refine ⟨?_, e.1.2, e.2⟩
 obtain ⟨cps⟩ := z
 congr
 have h1 : cps.size = 1 := e.1.1
 apply Array.ext
 ·simp [h1]
 ·intro i hi hi'
  have : i = 0 := by lia
  subst this
  simp [Array.getD, h1]
end
/-- is x in y? -/
noncomputable def isIn (x y : V) (μ : Mem) (b : Bool) : Prop := ∀ ⦃c A E s ι S va vc⦄, (c.base.get? sysModules).isSome = true → A.units + 8 < cLine → Rel c ι S μ s → RelV ι S s.heap va x → RelV ι S s.heap vc y →
 (∀ Q : Value → Shared → Prop, PostV c ι S s.heap μ (.bool b) Q → wpAny (model c.prog c.w) A (compareOp .In va vc) Q E s) ∧ (∀ Q : Value → Shared → Prop, PostV c ι S s.heap μ (.bool (!b)) Q → wpAny (model c.prog c.w) A (compareOp .NotIn va vc) Q E s)
/-- a comparison -/
noncomputable def cmp (op : CmpOp) (x y : V) (μ : Mem) (q : Bool → Prop) : Prop := ∀ ⦃c A E s ι S va vb Q⦄, (c.base.get? sysModules).isSome = true → A.units + 8 < cLine → Rel c ι S μ s → RelV ι S s.heap va x → RelV ι S s.heap vb y → (∀ b, q b → PostV c ι S s.heap μ (.bool b) Q) → wpAny (model c.prog c.w) A (compareOp op va vb) Q E s
section
variable {μ : Mem} {P : Bool → Prop} {a b : V} {r : Bool}
theorem isIn_D {k : Nat} {es : List (V × V)} {x : V} (hm : μ[k]? = some (.dict es)) (hk : okKey es x = true) : isIn x (.ref k) μ (dget es x).isSome := by
 intro c A E s ι S va vc hsys hu R ra rc
 refine ⟨fun Q hq => R.dictI (P := fun z => wpAny _ _ (compareOp .In _ z) _ _ _) rc hm fun a hn => ?_, fun Q hq => R.dictI (P := fun z => wpAny _ _ (compareOp .NotIn _ z) _ _ _) rc hm fun a hn => ?_⟩
 ·show wpAny _ _ (contains _ _ >>= fun b => pure (Value.bool b)) _ _ _
  exact wpAny_bind (contains_dict _ hsys (by lia) R hn hm ra hk fun tk => wpAny_pure (hq.now R (.bool _) tk))
 ·show wpAny _ _ (contains _ _ >>= fun b => pure (Value.bool !b)) _ _ _
  exact wpAny_bind (contains_dict _ hsys (by lia) R hn hm ra hk fun tk => wpAny_pure (hq.now R (.bool _) tk))
theorem isIn_L {c x : V} {vs : List V} (hc : listOf c μ = some vs) (hk : (x.pureN 5 && vs.all (V.pureN 5)) = true) : isIn x c μ (vs.any fun y => PyData.eqv y.py x.py) := by
 intro c A E s ι S va vc hsys hu R ra rc
 obtain ⟨a, us, rfl, p, r⟩ := list_of R rc hc
 rw [Bool.and_eq_true] at hk
 obtain ⟨f, k1, k2⟩ := in_lst (A := A) (v := va) hu r ra hk.1 hk.2
 rw [← k2]
 exact ⟨fun Q hq => in_listAt f p.isList k1 (hq.now R (.bool _) s.toks), fun Q hq => notIn_listAt f p.isList k1 (hq.now R (.bool _) s.toks)⟩
theorem isIn_S {y z : Str} {r : Bool} (hz : oneLow z = true) (hr : y.cps.contains (z.cps.getD 0 0) = r) : isIn (.str z) (.str y) μ r := by
 intro c A E s ι S va vc hsys hu R ra rc
 have key : (!(Builtin.Str.occurrences y z 0 y.length 1).isEmpty) = r := by
  rw [(one_low hz).1, StrLaws.found_one, ← hr, Bool.eq_iff_iff]
  simp
 exact ra.strI (P := fun z => (∀ Q : Value → Shared → Prop, PostV c ι S s.heap μ (.bool r) Q → wpAny (model c.prog c.w) A (compareOp .In z _) Q E s) ∧ ∀ Q : Value → Shared → Prop, PostV c ι S s.heap μ (.bool (!r)) Q → wpAny (model c.prog c.w) A (compareOp .NotIn z _) Q E s) fun t =>
  rc.strI (P := fun z => (∀ Q : Value → Shared → Prop, PostV c ι S s.heap μ (.bool r) Q → wpAny (model c.prog c.w) A (compareOp .In _ z) Q E s) ∧ ∀ Q : Value → Shared → Prop, PostV c ι S s.heap μ (.bool (!r)) Q → wpAny (model c.prog c.w) A (compareOp .NotIn _ z) Q E s) fun u => ⟨fun Q hq => P.in_str (key ▸ hq.now R (.bool _) s.toks), fun Q hq => P.notIn_str (key ▸ hq.now R (.bool _) s.toks)⟩
theorem w_in (hv : isIn a b μ r) (q : P r) : WS (cmp .In a b μ) P := by
 intro c A E s ι S va vb F hsys hu R ra rb K
 exact (hv hsys hu R ra rb).1 F (K _ q)
theorem w_notIn (hv : isIn a b μ r) (q : P (!r)) : WS (cmp .NotIn a b μ) P := by
 intro c A E s ι S va vb F hsys hu R ra rb K
 exact (hv hsys hu R ra rb).2 F (K _ q)
theorem w_eq (hv : veq a b μ r) (q : P r) : WS (cmp .Eq a b μ) P := by
 intro c A E s ι S va vb F hsys hu R ra rb K
 exact rcAt_V hu (rd_flat2 R ra hv.pa) (rd_flat2 R rb hv.pb) _ _ E F (hv.is ▸ (K _ q).now R (.bool _) s.toks)
theorem w_ne (hv : veq a b μ r) (q : P (!r)) : WS (cmp .NotEq a b μ) P := by
 intro c A E s ι S va vb F hsys hu R ra rb K
 exact rcNeAt_V hu (rd_flat2 R ra hv.pa) (rd_flat2 R rb hv.pb) _ _ E F (hv.is ▸ (K _ q).now R (.bool _) s.toks)
theorem veq_int (x y : Int) (μ : Mem) : veq (.int x) (.int y) μ (decide (x = y)) := ⟨rfl, rfl, rfl⟩
theorem w_eqI {x y : Int} (q : P (decide (x = y))) : WS (cmp .Eq (.int x) (.int y) μ) P := w_eq (veq_int x y μ) q
theorem w_neI {x y : Int} (q : P (!decide (x = y))) : WS (cmp .NotEq (.int x) (.int y) μ) P := w_ne (veq_int x y μ) q
theorem w_eqS {x y : Str} (h : (PyData.strOk x && PyData.strOk y) = true) (q : P (decide (x = y))) : WS (cmp .Eq (.str x) (.str y) μ) P := w_eq ⟨(Bool.and_eq_true_iff.mp h).1, (Bool.and_eq_true_iff.mp h).2, rfl⟩ q
theorem w_neS {x y : Str} (h : (PyData.strOk x && PyData.strOk y) = true) (q : P (!decide (x = y))) : WS (cmp .NotEq (.str x) (.str y) μ) P := w_ne ⟨(Bool.and_eq_true_iff.mp h).1, (Bool.and_eq_true_iff.mp h).2, rfl⟩ q
theorem cmp_ints {op : CmpOp} {x y : Int} (H : ∀ ⦃c A E s ι S F⦄ t u, Rel c ι S μ s → (∀ b, P b → PostV c ι S s.heap μ (.bool b) F) → wpAny (model c.prog c.w) A (compareOp op (.int x t) (.int y u)) F E s) : WS (cmp op (.int x) (.int y) μ) P := by
 intro c A E s ι S va vb F _ _ R ra rb K
 exact ra.intI (P := fun z => wpAny _ _ (compareOp _ z _) _ _ _) fun t => rb.intI (P := fun z => wpAny _ _ (compareOp _ _ z) _ _ _) fun u => H t u R K
theorem w_ltI {x y : Int} (q : P (decide (x < y))) : WS (cmp .Lt (.int x) (.int y) μ) P := cmp_ints fun _ _ _ s _ _ _ _ _ R K => lt_int ((K _ q).now R (.bool _) s.toks)
theorem w_leI {x y : Int} (q : P (decide (x ≤ y))) : WS (cmp .LtE (.int x) (.int y) μ) P := cmp_ints fun _ _ _ s _ _ _ _ _ R K => le_int ((K _ q).now R (.bool _) s.toks)
theorem w_gtI {x y : Int} (q : P (decide (y < x))) : WS (cmp .Gt (.int x) (.int y) μ) P := cmp_ints fun _ _ _ s _ _ _ _ _ R K => gt_int ((K _ q).now R (.bool _) s.toks)
theorem w_isNone (q : P true) : WS (cmp .Is .none .none μ) P := by
 intro c A E s ι S va vb F hsys hu R ra rb K
 exact ra.noneI (P := fun z => wpAny _ _ (compareOp _ z _) _ _ _) (rb.noneI (P := fun z => wpAny _ _ (compareOp _ _ z) _ _ _) (is_none ((K _ q).now R (.bool _) s.toks)))
theorem w_isTup {vs : List V} (q : P false) : WS (cmp .Is (.tup vs) .none μ) P := by
 intro c A E s ι S va vb F hsys hu R ra rb K
 exact rb.noneI (P := fun z => wpAny _ _ (compareOp _ _ z) _ _ _) (ra.tupI (P := fun z => wpAny _ _ (compareOp _ z _) _ _ _) fun a us p _ _ r => is_none ((K _ q).now R (.bool _) s.toks))
end
end Mine
set_option tactic.hygienic true
namespace Mine
open PySem.W
open PySem.Calls (docDef)
structure ClsOk (K : Frag) (Ca : Addr) : Prop where
 ga : findIn K (.ref Ca) "__getattribute__" = some (some (.builtin "object.__getattribute__"))
 gk : findIn K (.ref Ca) "__getattr__" = some none
 sa : findIn K (.ref Ca) "__setattr__" = some (some (.builtin "object.__setattr__"))
 dict : hasDictIn K Ca = true
 make : makesIn K Ca = true
 over : plainOver K Ca = true
 keep : keepIn K (.ref Ca) = true
 attrs : ∀ a, attrTable.contains a = true → findIn K (.ref Ca) a = some none
section
variable {c : Cx} {A : Around} {E : Value → Shared → Prop} {s : Shared} {ι : Own} {S : List Addr} {μ : Mem} {x : V} {Q : Value → Shared → Prop}
theorem relF_find {h : Heap} {name : Str} : ∀ {es : List DictEntry} {fs : List (Str × V)}, RelF ι S h es fs →
  match fs.lookup name with
  | some y => ∃ e, es.find? (·.key.isStr name) = some e ∧ RelV ι S h e.val y
  | none => es.find? (·.key.isStr name) = none
 | _, _, .nil => by simp
 | _, _, .cons (hs := hs) (t := t) (v := v) (x := z) (y := y) (es := es) (fs := fs) a r => by
  have ih := relF_find (name := name) r
  rw [List.lookup_cons, List.find?_cons]
  by_cases q : name = z
  ·subst q
   have e1 : (name == name) = true := by simp
   have e2 : Value.isStr (.str name t) name = true := by simp [Value.isStr]
   rw [e1]
   simp only [e2]
   exact ⟨_, rfl, a⟩
  ·have e1 : (name == z) = false := by simpa using q
   have e2 : Value.isStr (.str z t) name = false := by simp only [Value.isStr, beq_eq_false_iff_ne]; exact fun e => q e.symm
   rw [e1]
   simp only [e2]
   exact ih
theorem relF_noRef {h : Heap} : ∀ {es : List DictEntry} {fs : List (Str × V)}, RelF ι S h es fs → es.any (·.refKey) = false
 | _, _, .nil => rfl
 | _, _, .cons a r => by rw [List.any_cons, relF_noRef r]; rfl
theorem getL_some {h : Heap} {name : Str} {es : List DictEntry} {fs : List (Str × V)} (r : RelF ι S h es fs) (e : fs.lookup name = some x) : ∃ v, getL name es = some (some v) ∧ RelV ι S h v x := by
 have := relF_find (name := name) r
 rw [e] at this
 obtain ⟨en, h1, h2⟩ := this
 exact ⟨en.val, by unfold getL; rw [h1], h2⟩
theorem getL_none {h : Heap} {name : Str} {es : List DictEntry} {fs : List (Str × V)} (r : RelF ι S h es fs) (e : fs.lookup name = none) : getL name es = some none := by
 have := relF_find (name := name) r
 rw [e] at this
 unfold getL
 rw [this, relF_noRef r]
 rfl
theorem handed {v : Value} (r : RelV ι S s.heap v x) : handedIn v = true := by cases r <;> rfl
theorem inst_at {h : Heap} {a d Ca : Addr} {es : List DictEntry} {n : Nat} (e1 : h.get? a = some (instObj Ca d)) (e2 : h.get? d = some (dictOf es n)) : InstAt h a (instObj Ca d) Ca (some (dictOf es n)) := ⟨e1, rfl, rfl, e2⟩
structure Good0 (c : Cx) : Prop where
 kin : c.K.In c.base
 sys : (c.base.get? sysModules).isSome = true
 inst : ∀ C Ca, c.cls C = some Ca → ClsOk c.K Ca
theorem Good0.K (G : Good0 c) (R : Rel c ι S μ s) : c.K.In s.heap := G.kin.keeps R.keep
theorem getAttr_V (G : Good0 c) {k : Nat} {a : Addr} {d : Option Addr} {C : Str} {fs : List (Str × V)} {name : Str} {expr : Bool} (R : Rel c ι S μ s) (hn : ι[k]? = some (a, d)) (hm : μ[k]? = some (.inst C fs)) (ha : attrTable.contains name = true)
  (hl : fs.lookup name = some x) (hq : PostV c ι S s.heap μ x Q) : wpAny (model c.prog c.w) A (getAttr (.ref a) name expr) Q E s := by
 cases R.objs _ _ _ hn hm with
 | inst e1 e2 e3 rf =>
  obtain ⟨v, g1, g2⟩ := getL_some rf hl
  have O := G.inst _ _ e2
  have hf := O.attrs name ha
  exact get_value (G.K R) (inst_at e1 e3) O.ga (findObj_own O.dict hf rfl (by rw [lookIn_dict]; exact g1)) (handed g2) (hq.now R g2 _)
theorem method_V (G : Good0 c) {k : Nat} {a : Addr} {d : Option Addr} {C : Str} {fs : List (Str × V)} {name : Str} {pl : Sem Bool} {Ca f : Addr} {Q : Value × List Value → Shared → Prop} (R : Rel c ι S μ s) (hn : ι[k]? = some (a, d)) (hm : μ[k]? = some (.inst C fs))
  (hC : c.cls C = some Ca) (hf : findIn c.K (.ref Ca) name = some (some (.ref f))) (ht : typeIn c.K (.ref f) = some (.type "function")) (hl : fs.lookup name = none) (hq : Q (.ref f, [.ref a]) s) : wpAny (model c.prog c.w) A (getMethod (.ref a) name pl) Q E s := by
 cases R.objs _ _ _ hn hm with
 | inst e1 e2 e3 rf =>
  rw [hC] at e2
  cases e2
  have O := G.inst _ _ hC
  exact method_fn (G.K R) (inst_at e1 e3) O.ga O.gk hf ht (by show (lookIn name (dictOf _ _)).map _ = _; rw [lookIn_dict, getL_none rf hl]; rfl) hq
theorem relF_put {h : Heap} {name : Str} {hsh : Int} {t : Tok} {v : Value} (rv : RelV ι S h v x) : ∀ {es : List DictEntry} {fs : List (Str × V)}, RelF ι S h es fs → RelF ι S h (putL name hsh (.str name t) v es) (put fs name x)
 | _, _, .nil => .cons rv .nil
 | _, _, .cons (hs := hs) (t := t') (v := v') (x := z) (y := y) (es := es) (fs := fs) a r => by
  unfold putL put
  by_cases q : name = z
  ·subst q
   have e2 : Value.isStr (.str name t') name = true := by simp [Value.isStr]
   simp only [e2, if_true]
   exact .cons rv r
  ·have e2 : Value.isStr (.str z t') name = false := by simp only [Value.isStr, beq_eq_false_iff_ne]; exact fun e => q e.symm
   simp only [e2, Bool.false_eq_true, if_false, if_neg q]
   exact .cons a (relF_put rv r)
theorem relF_length {h : Heap} : ∀ {es : List DictEntry} {fs : List (Str × V)}, RelF ι S h es fs → es.length = fs.length
 | _, _, .nil => rfl
 | _, _, .cons a r => by simp [relF_length r]
theorem putL_length (name : Str) (hsh : Int) (key v : Value) : ∀ es : List DictEntry, (putL name hsh key v es).length ≤ es.length + 1
 | [] => by simp [putL]
 | e :: r => by
  unfold putL
  split
  ·simp
  ·simpa using putL_length name hsh key v r
theorem osa_V (G : Good0 c) {k : Nat} {a : Addr} {d : Option Addr} {C : Str} {fs : List (Str × V)} {name : Str} {v : Value} {tk : Tok} {Rs : Result → Shared → Prop} (R : Rel c ι S μ s) (hn : ι[k]? = some (a, d)) (hm : μ[k]? = some (.inst C fs)) (ha : attrTable.contains name = true)
  (hz : fs.length < 100) (rv : RelV ι S s.heap v x) (hq : ∀ s', Ext [] ι s.heap ι s'.heap → Rel c ι S (μ.set k (.inst C (put fs name x))) s' → Rs (.ok (.ret .none)) s') :
  codeAny (model c.prog c.w) A (.call (.builtin "object.__setattr__") ⟨[.ref a, .str name tk, v], []⟩) Rs s := by
 cases id (R.objs _ _ _ hn hm) with
 | inst e1 e2 e3 rf =>
  rename_i d Ca es n
  have O := G.inst _ _ e2
  have X := G.K R
  have I := inst_at e1 e3
  have hf := O.attrs name ha
  have ht : takerIn c.K Ca name = some none := by unfold takerIn; rw [hf]; rfl
  have hes : es.length < 100 := by rw [relF_length rf]; exact hz
  refine osa_open X I O.over ht fun b => ?_
  obtain ⟨cd, hc, hd'⟩ := any_some O.dict
  have hpn := putName_dict name (PyData.keyHash c.w.params name) (.str name s.toks) v es n
  have hs : Heap.SameBut d s.heap (s.heap.update d (Obj.putName name (PyData.keyHash c.w.params name) (.str name s.toks) v)) := Heap.SameBut.update ..
  have hget : (s.heap.update d (Obj.putName name (PyData.keyHash c.w.params name) (.str name s.toks) v)).get? d = some (dictOf (putL name (PyData.keyHash c.w.params name) (.str name s.toks) v es) (putN name es n)) := by
   rw [← hpn]; exact Heap.get?_update_self _ e3 (by rw [hpn]; rfl)
  have had : a ≠ d := fun q => by subst q; rw [e1] at e3; simp at e3
  refine wpAny_bind (wpAny_pure (wpAny_bind (wpAny_bind (wpAny_loadPart e1 (wpAny_bind ((looks_clsIn X hc).here ?_))))))
  rw [hd']
  refine wpAny_pure (a := some d) (wpAny_bind (wpAny_pure (wpAny_bind ?_)))
  unfold nsSet
  refine wpAny_bind (wpAny_bind (wpAny_askSetting (wpAny_pure (wpAny_bind (wpAny_mkText (wpAny_bind (wpAny_loadPart e3 ?_)))))))
  dsimp only
  have cc : (!es.toArray.any (·.key.isStr name) && es.toArray.any (·.refKey)) = false := by
   have := relF_noRef rf
   have z : es.toArray.any (·.refKey) = false := by rw [← Array.any_toList]; exact this
   rw [z, Bool.and_false]
  rw [aRefKeyMayBeTheName_at, cc]
  refine wpAny_updatePart e3 ?_
  refine wpAny_bind (wpAny_lookBehind hget (pastItsLine_dict (by rw [List.size_toArray, sizeLine_eq]; have := putL_length name (PyData.keyHash c.w.params name) (.str name s.toks) v es; lia)) ?_)
  obtain ⟨R', E'⟩ := R.set (s' := { s with heap := s.heap.update d (Obj.putName name (PyData.keyHash c.w.params name) (.str name s.toks) v), toks := s.toks + 1 }) (o := .inst C (put fs name x)) hn (fun b ob hb e => (hs.2 b (fun q => hb (by rw [q]; exact .tail _ (.head _)))).trans e) (live_but hs hget) rfl rfl
   fun E => .inst ((hs.2 a had).trans e1) e2 hget (relF_put (rv.mono E fun _ h => nomatch h) (rf.mono E fun _ h => nomatch h))
  exact wpAny_pure (hq _ E' R')
theorem setAttr_V (G : Good0 c) {k : Nat} {a : Addr} {d : Option Addr} {C : Str} {fs : List (Str × V)} {name : Str} {v : Value} {Q : Unit → Shared → Prop} (R : Rel c ι S μ s) (hn : ι[k]? = some (a, d)) (hm : μ[k]? = some (.inst C fs)) (ha : attrTable.contains name = true)
  (hz : fs.length < 100) (rv : RelV ι S s.heap v x) (hq : ∀ s', Ext [] ι s.heap ι s'.heap → Rel c ι S (μ.set k (.inst C (put fs name x))) s' → Q () s') : wpAny (model c.prog c.w) A (setAttr (.ref a) name v) Q E s := by
 cases id (R.objs _ _ _ hn hm) with
 | inst e1 e2 e3 rf =>
  have O := G.inst _ _ e2
  exact set_plain (G.K R) (inst_at e1 e3) O.sa (osa_V (s := { s with toks := s.toks + 1 }) G (R.keeps (fun _ _ e => e) rfl rfl) hn hm ha hz rv fun s' E' R' => hq s' E' R')
end
end Mine
namespace Mine
open PySem.W
theorem lookup_zip {α : Type} : ∀ (ns : List Str) (vs : List α) (j : Nat) (n : Str), ns.Nodup → ns.length = vs.length → ns[j]? = some n → (ns.zip vs).lookup n = vs[j]?
 | [], _, _, _, _, _, e => by simp at e
 | m :: ns, [], _, _, _, h, _ => by simp at h
 | m :: ns, v :: vs, 0, n, _, _, e => by simp at e; subst e; simp
 | m :: ns, v :: vs, j + 1, n, hn, hl, e => by
  obtain ⟨h1, h2⟩ := List.nodup_cons.mp hn
  have hne : (n == m) = false := by
   simp only [beq_eq_false_iff_ne]
   rintro rfl
   exact h1 (List.mem_of_getElem? (by simpa using e))
  rw [List.zip_cons_cons, List.lookup_cons, hne]
  simpa using lookup_zip ns vs j n h2 (by simpa using hl) (by simpa using e)
theorem filterMap_zip {α : Type} (ns : List Str) (vs : List α) (hn : ns.Nodup) (hl : ns.length = vs.length) : ns.filterMap (fun n => ((ns.zip vs).lookup n).map fun x => (n, x)) = ns.zip vs := by
 suffices h : ∀ (ms : List Str) (ws : List α), ms.length = ws.length → (∀ j n, ms[j]? = some n → (ns.zip vs).lookup n = ws[j]?) → ms.filterMap (fun n => ((ns.zip vs).lookup n).map fun x => (n, x)) = ms.zip ws from h ns vs hl fun j n e => lookup_zip ns vs j n hn hl e
 intro ms
 induction ms with
 | nil => intro ws _ _; rfl
 | cons m ms ih =>
  intro ws h1 h2
  cases ws with
  | nil => simp at h1
  | cons w ws =>
   have h0 := h2 0 m rfl
   simp only [List.getElem?_cons_zero] at h0
   rw [List.filterMap_cons, h0]
   simp only [Option.map_some, List.zip_cons_cons]
   rw [ih ws (by simpa using h1) fun j n e => by simpa using h2 (j + 1) n (by simpa using e)]
theorem bind_pos0 (name qn : Str) (args : List Arg) (kd : List (Option Expr)) (ds : List Expr) (body : FuncBody) (scope : Scope) (globals bl : Addr) (closure : List (Str × Addr)) (kw doc py code ct : Value) (an : Option Addr) (vs : List Value)
  (hl : (args.map (·.arg)).length = vs.length) (hnd : (args.map (·.arg)).Nodup) :
  bindArgs { name := name, qualname := qn, params := ⟨[], args, none, [], kd, none, ds⟩, body := body, scope := scope, globals := globals, closure := closure, defaults := .none, kwdefaults := kw, doc := doc, pyModule := py, annotations := an, code := code, closureTuple := ct, builtins := bl } ⟨vs, []⟩ = pure ((args.map (·.arg)).zip vs) := by
 refine (show (if _ then _ else _) = _ from ((if_neg ?_).trans ?_))
 ·show ¬ (decide (vs.length > (args.map (·.arg)).length) && true) = true
  rw [hl, decide_eq_false (Nat.lt_irrefl _)]; exact nofun
 dsimp only [Option.getD_none, Array.toList_empty]
 simp only [List.drop_nil, List.zip_nil_right]
 refine (if_neg ?_).trans ?_
 ·show ¬ (!(List.filter (fun n => (((args.map (·.arg)).zip vs).lookup n).isNone) ((args.map (·.arg)).take (args.map (·.arg)).length)).isEmpty) = true
  rw [List.take_length, List.filter_eq_nil_iff.mpr fun n hn => ?_]
  ·exact nofun
  ·obtain ⟨j, hj⟩ := List.mem_iff_getElem?.mp hn
   rw [lookup_zip _ vs j n hnd hl hj, List.getElem?_eq_getElem (hl ▸ (List.getElem?_eq_some_iff.mp hj).1)]; exact nofun
 ·show (pure (List.filterMap (fun n => (((args.map (·.arg)).zip vs).lookup n).map fun x => (n, x)) (args.map (·.arg) ++ [])) : Sem _) = _
  rw [List.append_nil, filterMap_zip _ _ hnd hl]
theorem bind_pos (fd : FuncData) (vs : List Value) (hp : fd.params.posonlyargs = []) (hv : fd.params.vararg = none) (hk : fd.params.kwonlyargs = []) (hkw : fd.params.kwarg = none) (hd : fd.defaults = .none)
  (hl : fd.params.args.length = vs.length) (hnd : (fd.params.args.map (·.arg)).Nodup) : bindArgs fd ⟨vs, []⟩ = pure ((fd.params.args.map (·.arg)).zip vs) := by
 cases fd with | mk _ _ p =>
 cases p
 cases hp; cases hv; cases hk; cases hkw; cases hd
 exact bind_pos0 _ _ _ _ _ _ _ _ _ _ _ _ _ _ _ _ _ (by rw [List.length_map]; exact hl) hnd
theorem cellsFrom_acc : ∀ (names : List (Str × NameKind)) (n : Nat) (acc : List (Str × Addr)), cellsFrom n names acc = cellsFrom n names [] ++ acc
 | [], _, _ => rfl
 | (x, k) :: r, n, acc => by
  unfold cellsFrom
  split
  ·rw [cellsFrom_acc r (n + 1) ((x, n) :: acc), cellsFrom_acc r (n + 1) [(x, n)]]; simp
  ·exact cellsFrom_acc r n acc
theorem cellsFrom_mem : ∀ (names : List (Str × NameKind)) (n : Nat) (x : Str), (x, NameKind.cell) ∈ names → ∃ a, (x, a) ∈ cellsFrom n names []
 | (y, k) :: r, n, x, h => by
  unfold cellsFrom
  rcases List.mem_cons.mp h with e | h
  ·cases e
   have hc : (NameKind.cell == NameKind.cell) = true := by decide
   rw [if_pos hc, cellsFrom_acc]
   exact ⟨n, List.mem_append_right _ (.head _)⟩
  ·split
   ·obtain ⟨a, ha⟩ := cellsFrom_mem r (n + 1) x h
    rw [cellsFrom_acc]
    exact ⟨a, List.mem_append_left _ ha⟩
   ·exact cellsFrom_mem r n x h
theorem cellsFrom_of_mem : ∀ (names : List (Str × NameKind)) (n : Nat) (x : Str) (a : Addr), (x, a) ∈ cellsFrom n names [] → (x, NameKind.cell) ∈ names
 | [], _, _, _, h => nomatch h
 | (y, k) :: r, n, x, a, h => by
  unfold cellsFrom at h
  split at h
  ·rename_i hk
   rw [cellsFrom_acc] at h
   rcases List.mem_append.mp h with h | h
   ·exact .tail _ (cellsFrom_of_mem r (n + 1) x a h)
   ·rcases List.mem_cons.mp h with e | h
    ·cases e
     have : k = .cell := by simpa using hk
     subst this
     exact .head _
    ·cases h
  ·exact .tail _ (cellsFrom_of_mem r n x a h)
theorem lookup_hd {α : Type} (x : Str) (a : α) (r : List (Str × α)) : ((x, a) :: r).lookup x = some a := by rw [List.lookup_cons, beq_self_eq_true]
theorem lookup_tl {α : Type} {x y : Str} (a : α) (r : List (Str × α)) (h : x ≠ y) : ((y, a) :: r).lookup x = r.lookup x := by rw [List.lookup_cons, beq_eq_false_iff_ne.mpr h]
theorem mem_of_lookup {α : Type} {l : List (Str × α)} {x : Str} {v : α} (h : l.lookup x = some v) : (x, v) ∈ l := by
 induction l with
 | nil => exact nomatch h
 | cons e r ih =>
  by_cases q : x = e.1
  ·subst q; rw [lookup_hd] at h; exact Option.some.inj h ▸ .head _
  ·rw [lookup_tl _ _ q] at h; exact .tail _ (ih h)
theorem lookup_some_of_mem {α : Type} {l : List (Str × α)} {x : Str} {a : α} (h : (x, a) ∈ l) : ∃ b, l.lookup x = some b := by
 induction h with
 | head r => exact ⟨a, lookup_hd x a r⟩
 | tail e _ ih =>
  by_cases q : x = e.1
  ·subst q; exact ⟨_, lookup_hd _ _ _⟩
  ·exact ih.imp fun _ h => (lookup_tl _ _ q).trans h
theorem lookup_of_mem {α : Type} {l : List (Str × α)} {x : Str} {a : α} (hn : (l.map (·.1)).Nodup) (h : (x, a) ∈ l) : l.lookup x = some a := by
 induction h with
 | head r => exact lookup_hd x a r
 | tail e m ih => exact (lookup_tl e.2 _ (fun q => (List.nodup_cons.mp hn).1 (Eq.subst (motive := fun z => z ∈ _) q (List.mem_map_of_mem (f := Prod.fst) m)))).trans (ih (List.nodup_cons.mp hn).2)
/-- what the closure of a def, of a comprehension, must be -/
structure CloR (sc : Scope) (closure : List (Str × Addr)) (ι : Own) (S : List Addr) (ρ : Loc) (h : Heap) : Prop where
 free : ∀ x, isLoc sc x = true → sc.names.lookup x = some .free → ∃ cl v₀, closure.lookup x = some cl ∧ h.IsCell cl v₀ ∧ cl ∈ S ∧ ∀ v, ρ.lookup x = some v → ∃ u, v₀ = some u ∧ RelV ι S h u v
 dom : ∀ x v, ρ.lookup x = some v → isLoc sc x = true ∧ sc.names.lookup x = some .free
 apart : closure.Pairwise fun x y => x.2 ≠ y.2
 names : ∀ p ∈ closure, sc.names.lookup p.1 ≠ some .cell ∧ h.get? p.2 ≠ none
section
variable {c : Cx} {A : Around} {E : Value → Shared → Prop} {s : Shared} {ι : Own} {S : List Addr} {μ : Mem} {ρ ρ' : Loc}
theorem bindAll_V {M : Model} {env : Env} {h : Here} (f : Str × Value → PUnit → Sem (ForInStep PUnit)) (hf : ∀ n v u, f (n, v) u = (do storeName env n v; pure (.yield ⟨⟩))) :
  ∀ (as : List Arg) (vs : List Value) (xs : List V) {ρ : Loc} {s : Shared} {Q : PUnit → Shared → Prop}, EnvR env h ι S ρ s.heap → Rel c ι S μ s → RelVs ι S s.heap vs xs → zipBinds h.sc as xs ρ = some ρ' →
   (∀ s', Kept (ownA env h) s.heap s'.heap → Rel c ι S μ s' → EnvR env h ι S ρ' s'.heap → Q ⟨⟩ s') → wpAny M A (forIn ((as.map (·.arg)).zip vs) ⟨⟩ f) Q E s
 | [], _, [], ρ, s, Q, r, R, rv, e, hq => by
  cases e
  rw [show (([] : List Arg).map (·.arg)).zip _ = [] from rfl, List.forIn_nil]
  exact wpAny_pure (hq s (.of_keeps fun _ _ e => e) R r)
 | a :: as, vs, x :: xs, ρ, s, Q, r, R, rv, e, hq => by
  cases rv with
  | cons ra rr =>
   rename_i v vs
   unfold zipBinds at e
   split at e
   ·rename_i ho
    rw [List.map_cons, List.zip_cons_cons, List.forIn_cons, hf]
    refine wpAny_bind (wpAny_bind (store_V r R ho ra fun s' k R' r' => wpAny_pure ?_))
    exact bindAll_V f hf as vs xs r' R' (rr.mono (k.ext (ι := ι)) r.inS) e fun s'' k' R'' r'' => hq s'' (k.trans k') R'' r''
   ·cases e
 | [], _, _ :: _, _, _, _, _, _, _, e, _ => by simp [zipBinds] at e
 | _ :: _, _, [], _, _, _, _, _, _, e, _ => by simp [zipBinds] at e
theorem newEnv_V {M : Model} {h : Here} {closure : List (Str × Addr)} {as : List Arg} {vs : List Value} {xs : List V} {qual : Str} {func : Option Addr} {code : Value} {around : Option Env} {Q : Env → Shared → Prop}
  (hk : h.sc.kind = .function) (hnd : (h.sc.names.map (·.1)).Nodup) (hab : ∀ e, around = some e → e.builtins = builtinsNs) (R : Rel c ι S μ s) (K : CloR h.sc closure ι S ρ s.heap) (rv : RelVs ι S s.heap vs xs) (hz : zipBinds h.sc as xs ρ = some ρ')
  (hq : ∀ env s' S', env.scope = h.sc → env.func = func → (around = none → env.code = code) → env.cells = cellsFrom (s.heap.objs.size + 1) h.sc.names [] ++ closure → (around = none → env = newEnv h.sc s.heap.objs.size mainGlobals (cellsFrom (s.heap.objs.size + 1) h.sc.names [] ++ closure) qual func code none builtinsNs) →
   Rel c ι S' μ s' → EnvR env h ι S' ρ' s'.heap → (∀ b o, s.heap.get? b = some o → s'.heap.get? b = some o) → (∀ x ∈ S, x ∈ S') → (∀ x ∈ ownA env h, s.heap.get? x = none) → Q env s') :
  wpAny M A (newFunctionEnv h.sc mainGlobals closure ((as.map (·.arg)).zip vs) qual func code around builtinsNs) Q E s := by
 unfold newFunctionEnv
 refine wpAny_bind (wpAny_alloc ?_)
 refine wpAny_bind (wpAny_layCells _ (fun name kind cells => by cases hkc : kind == NameKind.cell <;> simp [hkc]) _ _ _ _ ?_)
 generalize hcl : (if around.isSome = true then ("dict" : String) else "frame") = T0
 rw [show ({ s with heap := s.heap.push { cls := .type T0, data := .dict #[] } } : Shared).heap.objs.size = s.heap.objs.size + 1 from Heap.size_push ..]
 have ok := cellsFrom_ok h.sc.names (s.heap.push { cls := .type T0, data := .dict #[] }) (s.heap.objs.size + 1) [] ⟨fun _ _ hm => (nomatch hm), List.Pairwise.nil⟩ (by rw [Heap.size_push]; exact Nat.le_refl _)
 rw [Heap.size_push] at ok
 rw [cellsFrom_acc]
 have hlive : ∀ p ∈ closure, p.2 < s.heap.objs.size := fun p hp => by
  cases e : s.heap.get? p.2 with
  | none => exact absurd e (K.names p hp).2
  | some o => exact Heap.lt_size e
 have keep : ∀ b o, s.heap.get? b = some o → (pushCells (s.heap.push { cls := .type T0, data := .dict #[] }) h.sc.names).get? b = some o := fun b o e => pushCells_keeps _ _ b o (Heap.get?_push_of_some _ e)
 have none_ge : ∀ a, s.heap.objs.size ≤ a → s.heap.get? a = none := fun a ha => by
  cases e : s.heap.get? a with
  | none => rfl
  | some o => exact absurd (Heap.lt_size e) (Nat.not_lt.mpr ha)
 have hLn := Heap.Ns.new s.heap (.type T0)
 have hL : (pushCells (s.heap.push { cls := .type T0, data := .dict #[] }) h.sc.names).get? s.heap.objs.size ≠ none := by
  rw [pushCells_keeps _ _ _ _ (Heap.get?_push_size _ rfl)]; simp
 generalize hcs : cellsFrom (s.heap.objs.size + 1) h.sc.names [] = cs at ok
 have hcell : ∀ p ∈ cs, h.sc.names.lookup p.1 = some .cell := fun p hp => lookup_of_mem hnd (cellsFrom_of_mem _ _ _ _ (hcs ▸ hp))
 have R1 : Rel c ι (s.heap.objs.size :: cs.map (·.2) ++ S) μ { s with heap := pushCells (s.heap.push { cls := .type T0, data := .dict #[] }) h.sc.names } := by
  refine R.addS (s' := { s with heap := pushCells (s.heap.push { cls := .type T0, data := .dict #[] }) h.sc.names }) _ (fun x hx => ?_) (fun x hx => ?_) keep rfl rfl
  ·rcases List.mem_cons.mp hx with rfl | hx
   ·exact get_size _
   ·obtain ⟨p, hp, rfl⟩ := List.mem_map.mp hx
    exact none_ge _ (Nat.le_of_succ_le (ok.empty p.1 p.2 hp).2)
  ·rcases List.mem_cons.mp hx with rfl | hx
   ·exact hL
   ·obtain ⟨p, hp, rfl⟩ := List.mem_map.mp hx
    obtain ⟨o, ho, _⟩ := (ok.empty p.1 p.2 hp).1
    show (pushCells _ _).get? _ ≠ none
    rw [ho]; simp
 have pw : (cs ++ closure).Pairwise fun x y => x.2 ≠ y.2 := by
  refine List.pairwise_append.mpr ⟨ok.apart, K.apart, fun p hp q hq e => ?_⟩
  have h1 := (ok.empty p.1 p.2 hp).2
  have h2 := hlive q hq
  rw [e] at h1
  exact absurd h2 (Nat.not_lt.mpr (Nat.le_of_succ_le h1))
 have main : ∀ env : Env, env.scope = h.sc → env.locals = s.heap.objs.size → env.globals = mainGlobals → env.cells = cs ++ closure → env.builtins = builtinsNs →
   EnvR env h ι (s.heap.objs.size :: cs.map (·.2) ++ S) ρ (pushCells (s.heap.push { cls := .type T0, data := .dict #[] }) h.sc.names) ∧ ∀ x ∈ ownA env h, s.heap.get? x = none := by
  intro env h1 h2 h3 h4 h5
  have kof : ∀ x, env.kindOf x = h.sc.names.lookup x := fun x => by unfold Env.kindOf; rw [h1]
  have own : ∀ x ∈ ownA env h, x = s.heap.objs.size ∨ x ∈ cs.map (·.2) := fun x hx => by
   unfold ownA at hx
   rcases List.mem_cons.mp hx with rfl | hx
   ·exact .inl h2
   ·obtain ⟨p, hp, rfl⟩ := List.mem_map.mp hx
    obtain ⟨hp, hpc⟩ := List.mem_filter.mp hp
    rw [h4] at hp
    rcases List.mem_append.mp hp with hp | hp
    ·exact .inr (List.mem_map_of_mem hp)
    ·exact absurd (by simpa using hpc) (K.names p hp).1
  refine ⟨⟨by rw [h1]; exact hk, h3, h5, fun x hx => ?_, fun x hx => ?_, fun x hx => ?_, fun x hx hne e => hne (by rw [← kof]; exact e), ?_, fun x hx hne => ?_, fun x hx => ?_, fun x y cl e1 e2 => ?_, fun x cl e => ?_, fun x v e => (K.dom x v e).1⟩, fun x hx => ?_⟩
  ·rw [kof]
   unfold isLoc at hx
   split at hx
   ·cases hx
   ·rename_i hn
    split at hx
    ·rename_i e; exact .inl e
    ·rename_i e; exact .inr (.inl e)
    ·rename_i e
     refine .inr (.inr ⟨e, ?_⟩)
     simp only [Bool.or_eq_true, decide_eq_true_eq, not_or] at hn
     simp only [beq_eq_false_iff_ne]
     exact hn.1.2
    ·cases hx
  ·rw [kof]
   unfold isOwn at hx
   split at hx
   ·cases hx
   ·split at hx
    ·rename_i e; exact .inl e
    ·rename_i e; exact .inr ⟨e, e⟩
    ·cases hx
  ·rw [kof]
   unfold isGlob at hx
   split at hx
   ·rename_i e; exact e
   ·cases hx
  ·refine ⟨_, h2 ▸ hLn.keeps (pushCells_keeps _ _), fun x v e1 e2 => ?_⟩
   rw [kof, (K.dom x v e2).2] at e1
   cases e1
  ·rw [kof] at hne
   have hcf : h.sc.names.lookup x = some .cell ∨ h.sc.names.lookup x = some .free := by
    unfold isLoc at hx
    split at hx
    ·cases hx
    ·split at hx
     ·rename_i e; exact absurd e hne
     ·rename_i e; exact .inl e
     ·rename_i e; exact .inr e
     ·cases hx
   rw [h4]
   rcases hcf with e | e
   ·obtain ⟨a, ha⟩ := cellsFrom_mem h.sc.names (s.heap.objs.size + 1) x (mem_of_lookup e)
    rw [hcs] at ha
    obtain ⟨b, hb⟩ := lookup_some_of_mem ha
    have hm := mem_of_lookup hb
    refine ⟨b, none, ?_, (ok.empty x b hm).1, List.mem_append_left _ (.tail _ (List.mem_map.mpr ⟨(x, b), hm, rfl⟩)), fun v hv => ?_⟩
    ·rw [List.lookup_append, hb]; rfl
    ·rw [(K.dom x v hv).2] at e; cases e
   ·obtain ⟨cl, v₀, g1, g2, g3, g4⟩ := K.free x hx e
    refine ⟨cl, v₀, ?_, g2.keeps keep, List.mem_append_right _ g3, fun v hv => ?_⟩
    ·rw [List.lookup_append]
     cases q : cs.lookup x with
     | none => exact g1
     | some b =>
      have := hcell _ (mem_of_lookup q)
      rw [e] at this; cases this
    ·obtain ⟨u, a, b⟩ := g4 v hv
     have b1 : RelV ι (s.heap.objs.size :: cs.map (·.2) ++ S) s.heap u v := b.add _ fun y hy => by
      rcases List.mem_cons.mp hy with rfl | hy
      ·exact get_size _
      ·obtain ⟨p, hp, rfl⟩ := List.mem_map.mp hy
       exact none_ge _ (Nat.le_of_succ_le (ok.empty p.1 p.2 hp).2)
     exact ⟨u, a, b1.mono (X := []) (Ext.of_keeps keep) fun _ z => nomatch z⟩
  ·rcases own x hx with rfl | hx
   ·exact .head _
   ·exact List.mem_append_left _ (.tail _ hx)
  ·rw [h4] at e1 e2
   exact name_of_addr pw (mem_of_lookup e1) (mem_of_lookup e2)
  ·rw [h4] at e
   rw [h2]
   rcases List.mem_append.mp (mem_of_lookup e) with hm | hm
   ·have := (ok.empty _ _ hm).2
    exact Nat.ne_of_gt this
   ·exact Nat.ne_of_lt (hlive _ hm)
  ·rcases own x hx with rfl | hx
   ·exact get_size _
   ·obtain ⟨p, hp, rfl⟩ := List.mem_map.mp hx
    exact none_ge _ (Nat.le_of_succ_le (ok.empty p.1 p.2 hp).2)
 have rv1 : RelVs ι (s.heap.objs.size :: cs.map (·.2) ++ S) (pushCells (s.heap.push { cls := .type T0, data := .dict #[] }) h.sc.names) vs xs := by
  refine RelVs.mono (X := []) (Ext.of_keeps keep) (fun _ z => nomatch z) (rv.add _ fun y hy => ?_)
  rcases List.mem_cons.mp hy with rfl | hy
  ·exact get_size _
  ·obtain ⟨p, hp, rfl⟩ := List.mem_map.mp hy
   exact none_ge _ (Nat.le_of_succ_le (ok.empty p.1 p.2 hp).2)
 have fin : ∀ env : Env, env.scope = h.sc → env.locals = s.heap.objs.size → env.globals = mainGlobals → env.cells = cs ++ closure → env.builtins = builtinsNs → env.func = func → (around = none → env.code = code) →
   (around = none → env = newEnv h.sc s.heap.objs.size mainGlobals (cs ++ closure) qual func code none builtinsNs) →
   wpAny M A (forIn ((as.map (·.arg)).zip vs) (⟨⟩ : PUnit) (fun (x : Str × Value) (_ : PUnit) => (do storeName env x.1 x.2; pure (ForInStep.yield ⟨⟩) : Sem (ForInStep PUnit))) >>= fun _ => pure env) Q E { s with heap := pushCells (s.heap.push { cls := .type T0, data := .dict #[] }) h.sc.names } := by
  intro env h1 h2 h3 h4 h5 h6 h7 h8
  obtain ⟨m1, m2⟩ := main env h1 h2 h3 h4 h5
  refine wpAny_bind (bindAll_V (s := { s with heap := pushCells (s.heap.push { cls := .type T0, data := .dict #[] }) h.sc.names }) _ (fun _ _ _ => rfl) as vs xs m1 R1 rv1 hz fun s' k R' r' => wpAny_pure ?_)
  exact hq env s' _ h1 h6 h7 (hcs ▸ h4) (hcs ▸ h8) R' r' (fun b o e => k.keep b o (fun q => by rw [m2 b q] at e; cases e) (keep b o e)) (fun x hx => List.mem_append_right _ hx) m2
 cases around with
 | none => exact fin _ rfl rfl rfl rfl rfl rfl (fun _ => rfl) (fun _ => rfl)
 | some outer => exact fin _ rfl rfl rfl rfl (hab outer rfl) rfl (fun q => nomatch q) (fun q => nomatch q)
end
end Mine
set_option tactic.hygienic false
namespace Mine
open PySem.W
/-- a def of the text as it stands on the heap -/
structure Fn where
 f : Addr
 oc : Value
 od : Option Addr
 osl : Array (Option Value)
 name : Str
 qual : Str
 params : Arguments
 body : List Stmt
 sc : Scope
 cl : List (Str × Addr)
 kV : Value
 doc : Value
 pm : Value
 an : Option Addr
 cdv : Value
 ct : Value
noncomputable def Fn.data (x : Fn) : FuncData := fnX x.name x.qual x.params x.body x.sc x.cl .none x.kV x.doc x.pm x.an x.cdv x.ct
noncomputable def Fn.Is (x : Fn) (d : Stmt) : Prop := ∃ a dl rt tp ts bd p, d = .FunctionDef a x.params x.body dl rt tp x.sc ts bd p
/-- what super() asks of a def of the class D -/
structure SupFn (c : Cx) (x : Fn) (D : Str) : Prop where
 ks : x.sc.names.lookup ("super" : Str) = some .globalImplicit
 kc : x.sc.names.lookup ("__class__" : Str) = some .free
 self : ∃ ar, (x.params.posonlyargs ++ x.params.args).head? = some ar ∧ ar.arg = ("self" : Str)
 ka : x.sc.names.lookup ("self" : Str) = some .local
 cell : ∃ cc Da cl cld csl, x.cl = [(("__class__" : Str), cc)] ∧ c.K.lookup cc = some ⟨cl, cld, .cell (some (.ref Da)), csl⟩ ∧ c.cls D = some Da ∧ (clsIn c.K Da).isSome = true
 code : ∃ cda ccl cdd vs ccs file tf, x.cdv = .ref cda ∧ c.K.lookup cda = some ⟨ccl, cdd, .fields vs, ccs⟩ ∧ vs[2]? = some (.str file tf) ∧ ((c.prog.main.file : Str) == file) = true
structure FnOk (c : Cx) (x : Fn) (D : Str) : Prop where
 at_ : c.K.lookup x.f = some ⟨x.oc, x.od, .func x.data, x.osl⟩
 ty : x.oc = .type "function"
 code : codeIn c.K x.cdv x.qual = true
 po : x.params.posonlyargs = []
 va : x.params.vararg = none
 ko : x.params.kwonlyargs = []
 kw : x.params.kwarg = none
 nd : (x.params.args.map (·.arg)).Nodup
 kind : x.sc.kind = .function
 co : x.sc.isCoroutine = false
 gen : x.sc.isGenerator = false
 names : (x.sc.names.map (·.1)).Nodup
 apart : x.cl.Pairwise fun a b => a.2 ≠ b.2
 clo : ∀ p ∈ x.cl, x.sc.names.lookup p.1 ≠ some .cell ∧ (c.K.lookup p.2).isSome = true
 nofree : ∀ y, isLoc x.sc y = true → x.sc.names.lookup y ≠ some .free
 sup : (x.sc.names.lookup ("super" : Str)).isSome = false ∨ SupFn c x D
structure Good1 (c : Cx) : Prop extends Good0 c where
 nolimit : c.base.NoLimit
section
variable {c : Cx} {A : Around} {E : Value → Shared → Prop} {s : Shared} {ι : Own} {S : List Addr} {μ : Mem} {ρ ρ' : Loc}
/-- the frame of a def that is run -/
structure FrameOf (x : Fn) (env : Env) : Prop where
 scope : env.scope = x.sc
 func : env.func = some x.f
 code : env.code = x.cdv
 cells : ∃ n, env.cells = cellsFrom n x.sc.names [] ++ x.cl
 frame : env.frame = some env.locals
theorem zipBinds_length {sc : Scope} : ∀ {as : List Arg} {xs : List V} {ρ : Loc}, zipBinds sc as xs ρ = some ρ' → as.length = xs.length
 | [], [], _, _ => rfl
 | _ :: as, _ :: xs, _, e => by
  unfold zipBinds at e
  split at e
  ·simpa using zipBinds_length e
  ·cases e
 | [], _ :: _, _, e => by simp [zipBinds] at e
 | _ :: _, [], _, e => by simp [zipBinds] at e
theorem Ext.of_inner {X : List Addr} {ι ι' : Own} {h h₁ h₂ : Heap} (k : ∀ b o, h.get? b = some o → h₁.get? b = some o) (fr : ∀ x ∈ X, h.get? x = none) (E : Ext X ι h₁ ι' h₂) : Ext [] ι h ι' h₂ :=
 ⟨E.pre, fun b o n _ e => E.keep b o n (fun q => by rw [fr b q] at e; cases e) (k b o e), fun a ha => (E.fresh a ha).imp id fun q => none_of_keeps k a q, fun a q => none_of_keeps k a (E.live a q)⟩
theorem call_V (G : Good1 c) {x : Fn} {D : Str} {vals : List Value} {xs : List V} {Rs : Result → Shared → Prop} (F : FnOk c x D) (hd : A.depth < recursionLimit) (R : Rel c ι S μ s) (rv : RelVs ι S s.heap vals xs) (hz : zipBinds x.sc x.params.args xs [] = some ρ')
  (hq : ∀ env s₁ S', FrameOf x env → Rel c ι S' μ s₁ → EnvR env ⟨D, x.sc⟩ ι S' ρ' s₁.heap → (∀ b o, s.heap.get? b = some o → s₁.heap.get? b = some o) → (∀ y ∈ S, y ∈ S') → (∀ y ∈ ownA env ⟨D, x.sc⟩, s.heap.get? y = none) →
   _root_.PySem.wpAt (model c.prog c.w) (A.deeper env) (.func x.body env) (execs x.body env) (fun f s' => Rs (.ok (.ret (match f with | .ret v => v | _ => .none))) s')
    (fun e s' => wpAny (model c.prog c.w) (A.deeper env) (leaving env e) (fun _ s'' => Rs (.error e) s'') (fun e' s'' => Rs (.error e') s'') s') s₁) :
  codeAny (model c.prog c.w) A (.call (.ref x.f) ⟨vals, []⟩) Rs s := by
 have X := G.toGood0.K R
 have hl : x.params.args.length = vals.length := by rw [rv.length]; exact zipBinds_length hz
 refine codeAny_call_function hd (X _ _ F.at_) rfl F.co F.gen rfl (codeRec_of X F.code) ?_
 rw [bind_pos x.data vals F.po F.va F.ko F.kw rfl hl F.nd]
 refine wpAny_pure ?_
 refine newEnv_V (h := ⟨D, x.sc⟩) (ρ := []) F.kind F.names (fun _ q => nomatch q) R ⟨fun y h1 h2 => absurd h2 (F.nofree y h1), fun _ _ q => by simp at q, F.apart, fun p hp => ⟨(F.clo p hp).1, ?_⟩⟩ rv hz fun env s₁ S' h1 h2 h3 h4 h5 R' r' k hS hfr => ?_
 ·obtain ⟨o, ho⟩ := Option.isSome_iff_exists.mp (F.clo p hp).2
  rw [X _ _ ho]; simp
 ·have he := h5 rfl
  refine ⟨(G.nolimit.keeps R.keep).keeps k, ks_codeAny_funcAt (hq env s₁ S' ⟨h1, h2, h3 rfl, ⟨_, h4⟩, ?_⟩ R' r' k hS hfr)⟩
  rw [he]; rfl
end
end Mine
set_option tactic.hygienic true
namespace Mine
open PySem.W
theorem keeps_any {M : Model} {K : Frag} {f : Value} (hk : keepIn K f = true) (h : Heap) (X : K.In h) : ∃ k, (k = Keeper.frame ∨ k = Keeper.machine ∨ k = Keeper.boundFrame) ∧ Looks M h (keeperOf f) k := keeps_K hk h X
theorem star_ne {e : Expr} (h : isStar e = false) : ∀ x p, e ≠ .Starred x p := by rintro x p rfl; exact ff h.symm
theorem starEach_cons (e : Expr) (r : List Expr) (env : Env) (h : ∀ x p, e ≠ .Starred x p) : starEach (e :: r) env = (false, eval e env) :: starEach r env := by
 cases e <;> first | rfl | exact absurd rfl (h _ _)
theorem noStar_cons {e : Expr} {r : List Expr} (h : noStar (e :: r) = true) : (∀ x p, e ≠ .Starred x p) ∧ noStar r = true := by
 unfold noStar at h
 rw [List.all_cons, Bool.and_eq_true, Bool.not_eq_true'] at h
 exact ⟨star_ne h.1, h.2⟩
theorem plain_args (pos : Pos) (env : Env) : ∀ (args : List Expr), noStar args = true → (backTo pos (starEach args env)).any (·.1) = false
 | [], _ => rfl
 | e :: r, h => by
  obtain ⟨h1, h2⟩ := noStar_cons h
  rw [starEach_cons e r env h1]
  have := plain_args pos env r h2
  unfold backTo at this ⊢
  rw [List.map_cons, List.any_cons, this]
  rfl
section
variable {M : Model} {A : Around} {E : Value → Shared → Prop} {s : Shared} {env : Env}
theorem items_cons {pos : Pos} {e : Expr} {rest : List Expr} {Q : List Value → Shared → Prop} (hs : ∀ x p, e ≠ .Starred x p)
  (h : wpAny M A (eval e env) (fun v s₁ => wpAny M A (spliced (backTo pos (starEach rest env))) (fun vs s₂ => Q (v :: vs) s₂) E s₁) E s) : wpAny M A (spliced (backTo pos (starEach (e :: rest) env))) Q E s :=
 wpAny_items_cons h (starEach_cons e rest env hs)
theorem evalArgs_nil' {f : Value} {Q : Args → Shared → Prop} (h : wpAny M A (spliced []) (fun vs s' => Q ⟨vs, []⟩ s') E s) : wpAny M A (evalArgs f true [] []) Q E s := by
 unfold evalArgs
 show wpAny M A (spliced [] >>= _) Q E s
 refine wpAny_bind (wpAny_mono h (fun vs s' h' => ?_) fun _ _ x => x)
 refine wpAny_bind (wpAny_pure ?_)
 refine wpAny_holding ?_
 exact wpAny_bind (wpAny_pure (wpAny_bind (wpAny_pure (wpAny_pure h'))))
theorem callWith_V {P : Heap → Prop} {pos : Pos} {f : Value} {first : List Value} {args : List Expr} {Q : Value → Shared → Prop} (hn : noStar args = true)
  (hk : ∀ h, P h → ∃ k, (k = Keeper.frame ∨ k = Keeper.machine ∨ k = Keeper.boundFrame) ∧ Looks M h (keeperOf f) k)
  (h : wpAny M A (spliced (backTo pos (starEach args env))) (fun vs s₁ => P s₁.heap ∧ wpAny M A (call f (first ++ vs)) Q E s₁) E s) : wpAny M A (callWith pos f first (backTo pos (starEach args env)) []) Q E s := by
 refine callWith_of (P := P) (by rw [plain_args pos env args hn]; rfl) hk ?_
 cases args with
 | nil => exact evalArgs_nil' h
 | cons e r =>
  obtain ⟨h1, h2⟩ := noStar_cons hn
  rw [starEach_cons e r env h1] at h ⊢
  exact Calls.evalArgs_plain h
theorem keeps_builtin (id : String) (h : Heap) : ∃ k, (k = Keeper.frame ∨ k = Keeper.machine ∨ k = Keeper.boundFrame) ∧ Looks M h (keeperOf (.builtin id)) k := ⟨.machine, .inr (.inl rfl), .now⟩
theorem keeps_type (T : String) (h : Heap) : ∃ k, (k = Keeper.frame ∨ k = Keeper.machine ∨ k = Keeper.boundFrame) ∧ Looks M h (keeperOf (.type T)) k := ⟨.machine, .inr (.inl rfl), .now⟩
end
theorem base_plain {o : Expr} (attr : Str) (env : Env) (whole : Sem Value) (h : isSup o = false) : attributeBase o attr env whole = whole := by
 induction o using PySem.Expr.casesOn <;> first | rfl | exact ff h.symm
section
variable {c : Cx} {A : Around} {E : Value → Shared → Prop} {s : Shared} {ι : Own} {S : List Addr} {μ : Mem} {env : Env}
theorem methodCall_eq (o : Expr) (name : Str) (apos pos : Pos) (env : Env) (ov : Value) (args : List Expr) (hn : noStar args = true) (hl : apos.endLine = pos.line) (hlt : args.length < 30) :
  methodCall o name apos pos env ov (args.length + 0) (backTo pos (starEach args env)) [] = (do
   let (f, first) ← holding [ov] (getMethod ov name (do return (← importBound o env).getD true))
   callWith pos f first (backTo pos (starEach args env)) []) := by
 have hf : methodCallForm (args.length + 0) (backTo pos (starEach args env)) [] = true := by
  unfold methodCallForm
  have h1 : (backTo pos (starEach args env)).all (fun x => !x.1) = true := by
   have := plain_args pos env args hn
   rw [List.all_eq_not_any_not]
   simpa using this
  rw [h1]
  simp [hlt]
 unfold methodCall
 rw [hf]
 have hp : methodCallPos true o env apos pos = pure pos := by
  unfold methodCallPos
  simp [hl]
 rw [hp]
 simp only [pure_bind]
 rfl
/-- o.m(..) where o is plain -/
theorem MethodCall_V {M : Model} {o : Expr} {name : Str} {apos pos : Pos} {args : List Expr} {Q : Value → Shared → Prop} (hb : isSup o = false) (hn : noStar args = true) (hl : apos.endLine = pos.line) (hlt : args.length < 30)
  (h : wpAny M A (eval o env) (fun ov s₁ => wpAny M A (getMethod ov name (do return (← importBound o env).getD true)) (fun fx s₂ => wpAny M A (callWith pos fx.1 fx.2 (backTo pos (starEach args env)) []) Q E s₂) E s₁) E s) :
  wpAny M A (eval (.Call (.Attribute o name apos) args [] pos) env) Q E s := by
 rw [arm_eval_Call, base_plain name env _ hb]
 refine wpAny_bind (wpAny_mono h (fun ov s₁ h₁ => wpAny_bind (wpAny_standAt ?_)) fun _ _ x => x)
 show wpAny M A (methodCall o name apos pos env ov (args.length + 0) (backTo pos (starEach args env)) []) Q E s₁
 rw [methodCall_eq o name apos pos env ov args hn hl hlt]
 exact wpAny_bind (wpAny_holding (wpAny_mono h₁ (fun fx s₂ h₂ => h₂) fun _ _ x => x))
theorem Attribute_V {o : Expr} {name : Str} {pos : Pos} {Q : Value → Shared → Prop} (hb : isSup o = false)
  (h : wpAny (model c.prog c.w) A (eval o env) (fun ov s₁ => wpAny (model c.prog c.w) A (getAttr ov name true) Q E s₁) E s) : wpAny (model c.prog c.w) A (eval (.Attribute o name pos) env) Q E s := by
 rw [arm_eval_Attribute, base_plain name env _ hb]
 refine wpAny_bind (wpAny_mono h (fun ov s₁ h₁ => wpAny_bind (wpAny_standAt ?_)) fun _ _ x => x)
 exact wpAny_bind (wpAny_holding (wpAny_mono h₁ (fun r s₂ h₂ => wpAny_bind (wpAny_letTemporaryGo (wpAny_pure h₂))) fun _ _ x => x))
theorem wpAt_of_wpAny' {α : Type} {M : Model} {cd : Code} {t : Sem α} {Q : α → Shared → Prop} (h : wpAny M A t Q E s) : _root_.PySem.wpAt M A cd t Q E s := fun Γ p _ hΓ => h Γ p hΓ
/-- super().m(..) -/
structure Good2 (c : Cx) : Prop extends Good1 c where
 g : ∃ mg, c.base.Ns mainGlobals mg
 b : ∃ mb, c.base.Ns builtinsNs mb ∧ ∀ x : Str, x ≠ "__name__" → mb x = bootBuiltins x
 noSuper : nsIn c.K mainGlobals "super" = some none
 noTop : (c.prog.main.scope.names.lookup ("super" : Str)).isSome = false
 any : nsIn c.K cStatics "thirdparty.any" = some none
theorem boot_super : bootBuiltins "super" = some (.type "super") := by decide +kernel
theorem lookup_own {h : Here} {ρ : Loc} {x : Str} {v : V} (r : EnvR env h ι S ρ s.heap) (e : ρ.lookup x = some v) {M : Model} {Q : Value → Shared → Prop} (hq : ∀ u, RelV ι S s.heap u v → Q u s) : wpAny M A (loadName env x) Q E s :=
 load_V r (r.dom x v e) e hq
theorem super_V (G : Good2 c) {x x2 : Fn} {D D2 C : Str} {k : Nat} {a : Addr} {dd : Option Addr} {fs : List (Str × V)} {p0 p1 apos pos : Pos} {name : Str} {args : List Expr} {ρ : Loc} {Ca Da : Addr} {Q : Value → Shared → Prop}
  (F : FnOk c x D) (U : SupFn c x D) (Fr : FrameOf x env) (r : EnvR env ⟨D, x.sc⟩ ι S ρ s.heap) (R : Rel c ι S μ s) (hself : ρ.lookup ("self" : Str) = some (.ref k)) (hn : ι[k]? = some (a, dd)) (hm : μ[k]? = some (.inst C fs))
  (hC : c.cls C = some Ca) (hD : c.cls D = some Da) (hsub : mroIn c.K Ca (.ref Da) = some true) (hfind : ks_superIn c.K Ca Da name = some (some (.ref x2.f))) (hnm : (name == ("__class__" : Str)) = false) (F2 : FnOk c x2 D2)
  (hargs : noStar args = true) (hl : apos.endLine = pos.line) (hlt : args.length < 30)
  (hq : ∀ s₁ q, (∀ b o, s.heap.get? b = some o → s₁.heap.get? b = some o) → s₁.os = s.os → s₁.gens = s.gens → s.heap.get? q = none → s₁.heap.get? q = some (methodObj (.ref x2.f) (.ref a)) →
   wpAny (model c.prog c.w) A (spliced (backTo pos (starEach args env))) (fun vs s₂ => MethP c.K q x2.f (.ref a) s₂.heap ∧ codeAny (model c.prog c.w) A (.call (.ref x2.f) ⟨.ref a :: vs, []⟩) (wants Q E) s₂) E s₁) :
  _root_.PySem.wpAt (model c.prog c.w) A (.func x.body env) (eval (.Call (.Attribute (.Call (.Name "super" p0) [] [] p1) name apos) args [] pos) env) Q E s := by
 have X := G.toGood0.K R
 obtain ⟨cc, Da', cl, cld, csl, hcl, hcc, hDa', hDs⟩ := U.cell
 rw [hD] at hDa'
 cases hDa'
 obtain ⟨cda, ccl, cdd, vs, ccs, file, tf, hcdv, hcode, hvs, hfile⟩ := U.code
 obtain ⟨ar, har, haself⟩ := U.self
 obtain ⟨cdD, hcd⟩ := Option.isSome_iff_exists.mp hDs
 obtain ⟨oD, hD1, hD2⟩ : ∃ oD, s.heap.get? Da = some oD ∧ oD.data = .cls cdD := by
  unfold clsIn at hcd
  split at hcd
  ·rename_i ho
   cases hcd
   exact ⟨_, X _ _ ho, rfl⟩
  ·cases hcd
 obtain ⟨mg, hmg⟩ := G.g
 obtain ⟨mb, hmb, hmbb⟩ := G.b
 have kof : ∀ y, env.kindOf y = x.sc.names.lookup y := fun y => by unfold Env.kindOf; rw [Fr.scope]
 refine ks_wpAt_MethodCall (pl := (do return (← importBound (.Call (.Name "super" p0) [] [] p1) env).getD true)) ?_ ?_
 ·refine ks_wpAt_super_base (of := ⟨x.oc, x.od, .func x.data, x.osl⟩) (by rw [kof]; exact U.ks) (by rw [kof]; exact U.kc) hnm Fr.func (X _ _ F.at_) rfl har (Fr.code.trans hcdv) (X _ _ hcode) rfl hvs hfile G.noTop ?_
  refine ks_loadName_global r.kind (by rw [kof]; exact U.ks) (Calls.loadGlobal_builtin (mg := mg) (mb := mb) (by rw [r.glob]; exact hmg.keeps R.keep) (mg_none_of G.kin hmg G.noSuper) (by rw [r.blt]; exact hmb.keeps R.keep) ((hmbb _ (by decide +kernel)).trans boot_super) ⟨rfl, ?_⟩)
  have hcells : env.cells.lookup ("__class__" : Str) = some cc := by
   obtain ⟨n, hcs⟩ := Fr.cells
   rw [hcs, hcl, List.lookup_append]
   have : (cellsFrom n x.sc.names []).lookup ("__class__" : Str) = none := by
    cases q : (cellsFrom n x.sc.names []).lookup ("__class__" : Str) with
    | none => rfl
    | some b =>
     have := lookup_of_mem F.names (cellsFrom_of_mem _ _ _ _ (mem_of_lookup q))
     rw [U.kc] at this; cases this
   rw [this]
   simp
  refine wpAny_loadName_free r.kind (by rw [kof]; exact U.kc) hcells ⟨_, X _ _ hcc, rfl⟩ ?_
  rw [haself]
  refine lookup_own r hself fun u ru => ?_
  cases ru with
  | ref hn' =>
   rw [hn] at hn'
   cases hn'
   cases R.objs _ _ _ hn hm with
   | inst e1 e2 e3 rf =>
    rw [hC] at e2
    cases e2
    rename_i dx es n
    have hxC : a ≠ Ca := ks_ne (C := Ca) X (inst_at e1 e3) (Option.isSome_iff_exists.mp (show (clsIn c.K Ca).isSome = true by
     have := (G.inst _ _ hC).dict
     unfold hasDictIn at this
     cases q : clsIn c.K Ca with
     | none => rw [q] at this; cases this
     | some _ => rfl)).choose_spec
    obtain ⟨hh, g, dr, t, os⟩ := s
    refine ks_wpAny_isType_cls hD1 hD2 ⟨rfl, ?_⟩
    refine ks_wpAny_call_super hD1 hD2 e1 rfl (fun c e => nomatch e) (looks_mroIn X hsub) (fun h' e k => ?_)
    have X' : c.K.In h' := X.keeps k
    have hmro : ∃ cd, clsIn c.K Ca = some cd ∧ alongIn c.K name ((cd.mro.dropWhile (· != .ref Da)).drop 1) = some (some (.ref x2.f)) := by
     unfold ks_superIn at hfind
     cases q : clsIn c.K Ca with
     | none => rw [q] at hfind; cases hfind
     | some cd => rw [q] at hfind; exact ⟨cd, rfl, hfind⟩
    obtain ⟨cd, hcd', hal⟩ := hmro
    refine ks_wpAny_getMethod_super e (looks_opaque X' G.any) (l₀ := cd.mro) ?_ rfl X' hal (X' _ _ F2.at_) F2.ty hxC hnm ?_
    ·exact fun A Q E s k q => wpAny_bind ((looks_clsIn X' hcd') A _ E s k (wpAny_pure q))
    have k2 : ∀ b o, h'.get? b = some o → (h'.push (methodObj (.ref x2.f) (.ref a))).get? b = some o := fun b o e => Heap.get?_push_of_some _ e
    have hf : fnIn c.K x2.f = true := by unfold fnIn; rw [F2.at_]
    refine callWith_V (P := MethP c.K h'.objs.size x2.f (.ref a)) hargs (keeps_M hf) ?_
    have := hq ⟨h'.push (methodObj (.ref x2.f) (.ref a)), g, dr, t + 1, os⟩ h'.objs.size (fun b o e => k2 b o (k b o e)) rfl rfl (none_of_keeps k _ (get_size _)) (Heap.get?_push_size _ rfl)
    exact wpAny_mono this (fun vs s₂ h₂ => ⟨h₂.1, wpAny_call (method_call h₂.1.1 h₂.2)⟩) fun _ _ z => z
 ·rw [arm_eval_Call]
  have := fun ov => methodCall_eq (.Call (.Name "super" p0) [] [] p1) name apos pos env ov args hargs hl hlt
  show (attributeBase _ name env _ >>= fun ov => standAt apos.atName >>= fun _ => methodCall _ name apos pos env ov (args.length + 0) (backTo pos (starEach args env)) []) = _
  simp only [this]
end
end Mine
set_option tactic.hygienic false
namespace Mine
open PySem.W
section
variable {ι : Own} {S T : List Addr} {h h' : Heap}
theorem Mv.but (k : ∀ b o, b ∉ T → h.get? b = some o → h'.get? b = some o) : Mv ι (T ++ S) h ι S h' := ⟨fun _ _ e => e, fun a o n1 n2 e => ⟨k a o (fun q => n2 (List.mem_append_left _ q)) e, n1, fun q => n2 (List.mem_append_right _ q)⟩⟩
theorem RelVs.but (k : ∀ b o, b ∉ T → h.get? b = some o → h'.get? b = some o) {v : List Value} {x : List V} (r : RelVs ι (T ++ S) h v x) : RelVs ι S h' v x := r.mv (.but k)
theorem RelV.but (k : ∀ b o, b ∉ T → h.get? b = some o → h'.get? b = some o) {v : Value} {x : V} (r : RelV ι (T ++ S) h v x) : RelV ι S h' v x := r.mv (.but k)
end
section
variable {c : Cx} {s s' : Shared} {ι : Own} {S T : List Addr} {μ : Mem} {env : Env} {hh : Here}
/-- the private things T are gone -/
theorem Rel.but (R : Rel c ι (T ++ S) μ s) (k : ∀ b o, b ∉ T → s.heap.get? b = some o → s'.heap.get? b = some o) (hS : ∀ a ∈ S, a ∉ T) (o : s'.os = s.os) (g : s'.gens = s.gens) : Rel c ι S μ s' where
 len := R.len
 objs := fun n p ob a b => (R.objs n p ob a b).mv (.but k) fun x hx ob => k x ob fun q => R.disj x (List.mem_append_left _ q) (mem_owned a x hx)
 nodup := R.nodup
 disj := fun a ha => R.disj a (List.mem_append_right _ ha)
 bound := fun a ha e => by
  cases q : s.heap.get? a with
  | none => exact R.bound a (List.mem_append_right _ ha) q
  | some ob => rw [k a ob (hS a ha) q] at e; cases e
 new := R.new
 newS := fun a ha => R.newS a (List.mem_append_right _ ha)
 keep := fun b ob e => k b ob (fun q => by have := R.newS b (List.mem_append_left _ q); rw [e] at this; cases this) (R.keep b ob e)
 os := o.trans R.os
 gens := g.trans R.gens
theorem EnvR.keeps {ρ : Loc} {h h' : Heap} (r : EnvR env hh ι S ρ h) (k : ∀ b o, h.get? b = some o → h'.get? b = some o) : EnvR env hh ι S ρ h' :=
 r.mv (.mono (X := []) (Ext.of_keeps k) nofun) r.inS (k _) fun x cl _ _ _ hS => ⟨hS, k cl⟩
theorem EnvR.but {ι₀ : Own} {ρ₀ ρ : Loc} {h₀ h h' : Heap} (r₀ : EnvR env hh ι₀ S ρ₀ h₀) (r : EnvR env hh ι (T ++ S) ρ h) (k : ∀ b o, b ∉ T → h.get? b = some o → h'.get? b = some o) (hS : ∀ a ∈ S, a ∉ T) : EnvR env hh ι S ρ h' :=
 r.mv (.but k) r₀.inS (fun o => k _ o (hS _ (r₀.inS _ (.head _)))) fun x cl h1 h2 h3 _ => (r₀.cell x h1 h2).elim fun cl₀ z => z.elim fun _ z => by
  cases z.1.symm.trans h3
  exact ⟨z.2.2.1, fun o => k _ o (hS _ z.2.2.1)⟩
/-- a private thing that is none of the frame's has changed -/
theorem EnvR.priv {X : List Addr} {ρ : Loc} {h h' : Heap} (r : EnvR env hh ι S ρ h) (k : Kept X h h') (hX : ∀ x ∈ X, x ∈ S) (hn : ∀ x ∈ X, x ≠ env.locals ∧ ∀ y cl, isLoc hh.sc y = true → env.kindOf y ≠ some .local → env.cells.lookup y = some cl → cl ≠ x) : EnvR env hh ι S ρ h' :=
 r.mv (.mono (k.ext (ι := ι)) hX) r.inS (fun o => k.keep _ o fun q => (hn _ q).1 rfl) fun x cl h1 h2 h3 hS => ⟨hS, fun o => k.keep _ o fun q => (hn _ q).2 x cl h1 h2 h3 rfl⟩
end
/-- an iterator: its own things T, what it draws from, how far -/
inductive SrcR (ι : Own) (S : List Addr) (h : Heap) : Addr → List Addr → Src → Nat → Prop
 | list {a l k i : Nat} : h.IsListIter a l i → ι[k]? = some (l, none) → SrcR ι S h a [a] (.ref k) i
 | lstv {a l i : Nat} {items : List Value} {vs : List V} : h.IsListIter a l i → PL h l items → l ∉ owned ι → l ∉ S → RelVs ι S h items vs → SrcR ι S h a [a] (.vals vs) i
 | tup {a l i : Nat} {items : List Value} {vs : List V} : h.IsTupleIter a l i → PT h l items → l ∉ owned ι → l ∉ S → RelVs ι S h items vs → SrcR ι S h a [a] (.vals vs) i
 | rng {a i : Nat} {lo hi : Int} : IsRangeIter h a (lo + i) (((hi - lo).toNat : Int) - i) 1 → SrcR ι S h a [a] (.vals (rngItems lo hi)) i
 | str {a i : Nat} {ty : String} {x : Str} {t : Tok} : ty = "str_ascii_iterator" ∨ ty = "str_iterator" → h.IsStrIter a ty x t i → SrcR ι S h a [a] (.vals (x.cps.toList.map fun c => .str ⟨#[c]⟩)) i
 | enum {e a l k i : Nat} {old : Value} : IsEnum h e a i old → h.IsListIter a l i → e ≠ a → ι[k]? = some (l, none) → SrcR ι S h e [e, a] (.enum (.ref k)) i
 | enumv {e a l i : Nat} {old : Value} {items : List Value} {vs : List V} : IsEnum h e a i old → h.IsListIter a l i → e ≠ a → PL h l items → l ∉ owned ι → l ∉ S → RelVs ι S h items vs → SrcR ι S h e [e, a] (.enum (.vals vs)) i
section
variable {ι ι' : Own} {S X : List Addr} {h h' : Heap} {a : Addr} {T : List Addr} {src : Src} {i : Nat}
theorem SrcR.mem (r : SrcR ι S h a T src i) : a ∈ T := by cases r <;> exact .head _
theorem SrcR.mono (r : SrcR ι S h a T src i) (E : Ext X ι h ι' h') (s : ∀ x ∈ X, x ∈ S) (n : ∀ x ∈ T, x ∉ X ∧ x ∉ owned ι) : SrcR ι' S h' a T src i := by
 have k : ∀ x ∈ T, ∀ o, h.get? x = some o → h'.get? x = some o := fun x hx o e => E.keep x o (n x hx).2 (n x hx).1 e
 cases r with
 | list p q => exact .list (p.at (k _ (.head _))) (E.get q)
 | lstv p q n1 n2 r => exact .lstv (p.at (k _ (.head _))) (q.at fun o e => E.keep _ o n1 (fun z => n2 (s _ z)) e) (E.not_owned' n1 q.live) n2 (r.mono E s)
 | tup p q n1 n2 r => exact .tup (let ⟨o, ho, z⟩ := p; ⟨o, k _ (.head _) o ho, z⟩) (q.at fun o e => E.keep _ o n1 (fun z => n2 (s _ z)) e) (E.not_owned' n1 q.live) n2 (r.mono E s)
 | rng p => exact .rng (k _ (.head _) _ p)
 | str hty p => exact .str hty (let ⟨o, ho, z⟩ := p; ⟨o, k _ (.head _) o ho, z⟩)
 | enum p q ne z => exact .enum (k _ (.head _) _ p) (q.at (k _ (.tail _ (.head _)))) ne (E.get z)
 | enumv p q ne z n1 n2 r => exact .enumv (k _ (.head _) _ p) (q.at (k _ (.tail _ (.head _)))) ne (z.at fun o e => E.keep _ o n1 (fun z => n2 (s _ z)) e) (E.not_owned' n1 z.live) n2 (r.mono E s)
end
end Mine
set_option tactic.hygienic true
set_option tactic.hygienic false
namespace Mine
open PySem.W
section
variable {M : Model} {A : Around} {E : Value → Shared → Prop} {s : Shared}
noncomputable def sharers : List String := ["enumerate", "zip", "dict_itemiterator", "dict_reverseitemiterator", "odict_iterator", "itertools.zip_longest", "itertools.pairwise"]
theorem letgo_plain {target : Expr} {a : Addr} {v : Value} {o : Obj} {n : String} {Q : Unit → Shared → Prop} (ho : s.heap.get? a = some o) (hc : o.cls = .type n) (hn : sharers.contains n = false) (hq : Q () s) : wpAny M A (letOwnedTupleGo target (.ref a) v) Q E s := by
 have key : wpAny M A (do
   let (.ref r, .ref b) := (Value.ref a, v) | return
   let o ← load r
   match o.cls, o.data with
   | .type n, .fields vs =>
    if sharers.contains n && vs[0]? == some (rawInt b) then
     rule "for.unpacks-the-owned-tuple"
     updateField r 0 .none
   | _, _ => pure ()) Q E s := by
  cases v with
  | ref b =>
   refine wpAny_bind (wpAny_load ho ?_)
   rw [hc]
   cases o.data with
   | fields vs =>
    show wpAny M A (if (sharers.contains n && vs[0]? == some (rawInt b)) = true then _ else _) Q E s
    rw [hn, Bool.false_and, if_neg (by decide)]
    exact wpAny_pure hq
   | _ => exact wpAny_pure hq
  | _ => exact wpAny_pure hq
 unfold letOwnedTupleGo
 cases target <;> first | exact key | exact wpAny_pure hq
end
section
variable {c : Cx} {A : Around} {E : Value → Shared → Prop} {s : Shared} {ι : Own} {S : List Addr} {μ : Mem}
theorem push_none {h : Heap} {o : Obj} : ∀ b ob, h.get? b = some ob → (h.push o).get? b = some ob := fun _ _ e => Heap.get?_push_of_some _ e
theorem one_none (h : Heap) : ∀ x ∈ [h.objs.size], h.get? x = none := fun x hx => by
 rw [List.mem_singleton] at hx; subst hx; exact get_size _
theorem not_in_one {h : Heap} {l : Addr} (e : h.get? l ≠ none) {S : List Addr} (n : l ∉ S) : l ∉ [h.objs.size] ++ S := fun q => by
 rcases List.mem_append.mp q with q | q
 ·rw [List.mem_singleton] at q; exact e (q ▸ get_size _)
 ·exact n q
/-- what an iterator is made of -/
abbrev PostI (c : Cx) (ι : Own) (S : List Addr) (s : Shared) (μ : Mem) (src : Src) (Q : Value → Shared → Prop) : Prop :=
 ∀ a T s', (∀ b o, s.heap.get? b = some o → s'.heap.get? b = some o) → (∀ y ∈ T, s.heap.get? y = none) → Rel c ι (T ++ S) μ s' → SrcR ι (T ++ S) s'.heap a T src 0 → Q (.ref a) s'
theorem iter_fin {src : Src} {Q : Value → Shared → Prop} {o : Obj} (R : Rel c ι S μ s) (hq : PostI c ι S s μ src Q) (hg : (s.heap.push o).get? s.heap.objs.size = some o) (sr : SrcR ι ([s.heap.objs.size] ++ S) (s.heap.push o) s.heap.objs.size [s.heap.objs.size] src 0) : Q (.ref s.heap.objs.size) { s with heap := s.heap.push o } :=
 hq _ [s.heap.objs.size] { s with heap := s.heap.push o } push_none (one_none _) (R.addS _ (one_none _) (fun x hx => by rw [List.mem_singleton.mp hx]; show (s.heap.push o).get? _ ≠ none; rw [hg]; exact nofun) push_none rfl rfl) sr
end
/-- what a for goes over -/
noncomputable def sof (v : V) (μ : Mem) (q : Src → Mem → Prop) : Prop := ∀ ⦃c A E s ι S u Q⦄, Rel c ι S μ s → RelV ι S s.heap u v → (∀ sr, q sr μ → PostI c ι S s μ sr Q) → wpAny (model c.prog c.w) A (pyIter u) Q E s
section
variable {μ : Mem} {Q : Src → Mem → Prop} {xs : List V} {v : V}
theorem sofR {k : Nat} (hm : μ[k]? = some (.lst xs)) (q : Q (.ref k) μ) : sof (.ref k) μ Q := by
 intro c A E s ι S u F R r K
 exact R.lstI (P := fun z => wpAny _ _ (pyIter z) _ _ _) r hm fun a hn => R.lstO hn hm fun _ p _ => wpAny_pyIter_list p.isList (iter_fin R (K _ q) (Heap.get?_push_size _ rfl) (.list ⟨_, Heap.get?_push_size _ rfl, rfl, rfl⟩ hn))
theorem sofL (q : Q (.vals xs) μ) : sof (.lst xs) μ Q := by
 intro c A E s ι S u F R r K
 exact r.seqI (P := fun z => wpAny _ _ (pyIter z) _ _ _) fun a us p n1 n2 r => wpAny_pyIter_list p.isList (iter_fin R (K _ q) (Heap.get?_push_size _ rfl)
  (.lstv ⟨_, Heap.get?_push_size _ rfl, rfl, rfl⟩ (p.at (push_none _)) n1 (not_in_one p.live n2) ((r.add _ (one_none _)).mono (X := []) (Ext.of_keeps push_none) nofun)))
theorem sofT (q : Q (.vals xs) μ) : sof (.tup xs) μ Q := by
 intro c A E s ι S u F R r K
 exact r.tupI (P := fun z => wpAny _ _ (pyIter z) _ _ _) fun a us p n1 n2 r => wpAny_pyIter_tuple p.isTuple (iter_fin R (K _ q) (Heap.get?_push_size _ rfl)
  (.tup ⟨_, Heap.get?_push_size _ rfl, rfl, rfl⟩ (p.at (push_none _)) n1 (not_in_one p.live n2) ((r.add _ (one_none _)).mono (X := []) (Ext.of_keeps push_none) nofun)))
theorem sofG {lo hi : Int} (hl : okRng lo hi = true) (q : Q (.vals (rngItems lo hi)) μ) : sof (.rng lo hi) μ Q := by
 intro c A E s ι S u F R r K
 unfold okRng at hl
 rw [Bool.and_eq_true, Bool.and_eq_true, decide_eq_true_eq, limit_eq] at hl
 have h1 := small_lt hl.1.1
 have h2 := small_lt hl.1.2
 have h3 := hl.2
 refine r.rngI (P := fun z => wpAny _ _ (pyIter z) _ _ _) fun a t u w p n1 n2 => wpAny_pyIter_range p (rng_small h1 h2 h3) (iter_fin R (K _ q) (Heap.get?_push_size _ rfl) (.rng ?_))
 rw [range_size, show lo + ((0 : Nat) : Int) = lo from Int.add_zero lo, show (((hi - lo).toNat : Nat) : Int) - ((0 : Nat) : Int) = (((hi - lo).toNat : Nat) : Int) from Int.sub_zero _]
 exact Heap.get?_push_size s.heap (o := { cls := .type "range_iterator", data := .fields #[rawInt lo, rawInt (((hi - lo).toNat : Nat) : Int), rawInt 1] }) rfl
theorem sofS {x : Str} (q : Q (.vals (x.cps.toList.map fun c => .str ⟨#[c]⟩)) μ) : sof (.str x) μ Q := by
 intro c A E s ι S u F R r K
 refine r.strI (P := fun z => wpAny _ _ (pyIter z) _ _ _) fun t => ?_
 cases ha : x.cps.all (· < 128)
 ·exact wpAny_pyIter_wide ha (iter_fin R (K _ q) (Heap.get?_push_size _ rfl) (.str (.inr rfl) ⟨_, Heap.get?_push_size _ rfl, rfl, rfl⟩))
 ·exact wpAny_pyIter_ascii ha (iter_fin R (K _ q) (Heap.get?_push_size _ rfl) (.str (.inl rfl) ⟨_, Heap.get?_push_size _ rfl, rfl, rfl⟩))
end
section
variable {c : Cx} {A : Around} {E : Value → Shared → Prop} {s : Shared} {ι : Own} {S : List Addr} {μ : Mem}
theorem iter_self {a : Addr} {T : List Addr} {src : Src} {i : Nat} {Q : Value → Shared → Prop} (sr : SrcR ι S s.heap a T src i) (hq : Q (.ref a) s) : wpAny (model c.prog c.w) A (pyIter (.ref a)) Q E s := by
 cases sr with
 | list p _ => exact wpAny_pyIter_listiter p hq
 | lstv p _ _ _ _ => exact wpAny_pyIter_listiter p hq
 | tup p _ _ _ _ => exact wpAny_pyIter_tupleiter p hq
 | rng p => exact wpAny_pyIter_rangeiter p hq
 | str hty p =>
  rcases hty with rfl | rfl
  ·exact wpAny_pyIter_striter_ascii p hq
  ·exact wpAny_pyIter_striter_wide p hq
 | enum p _ _ _ => exact wpAny_pyIter_enum p hq
 | enumv p _ _ _ _ _ _ => exact wpAny_pyIter_enum p hq
theorem getElem_some {α : Type} {l : List α} {i : Nat} {x : α} (e : l[i]? = some x) : i < l.length := (List.getElem?_eq_some_iff.mp e).1
theorem kept_one {a : Addr} {h h' : Heap} {o : Obj} (hs : Heap.SameBut a h h') (e : h'.get? a = some o) : Kept [a] h h' := ⟨fun b ob n q => (hs.2 b (fun z => n (by rw [z]; exact .head _))).trans q, live_but hs e⟩
theorem at_refE {P : Prop} {k i : Nat} {o : Option V} (e : (Src.ref k).at i μ = some o) (K : ∀ xs, μ[k]? = some (.lst xs) → xs[i]? = o → P) : P := (Option.map_eq_some_iff.mp e).elim fun xs h => K xs (of_lstAt h.1) h.2
theorem at_enumE {P : Prop} {k i : Nat} {o : Option V} (e : (Src.enum (.ref k)).at i μ = some o) (K : ∀ xs, μ[k]? = some (.lst xs) → (xs[i]?.map fun v => .tup [.int i, v]) = o → P) : P := (Option.map_eq_some_iff.mp e).elim fun xs h => K xs (of_lstAt h.1) h.2
theorem okT_tup {sr : Src} {t : Expr} (h : okT (.enum sr) t = true) : ∃ a b c, t = .Tuple a b c := by
 induction t using PySem.Expr.casesOn <;> first | exact ⟨_, _, _, rfl⟩ | exact ff h
/-- one more thing is drawn -/
abbrev PostN (ι : Own) (S : List Addr) (s : Shared) (a : Addr) (T : List Addr) (src : Src) (i : Nat) (x : V) (Q : Value → Shared → Prop) : Prop :=
 ∀ v s₂, Kept T s.heap s₂.heap → s₂.os = s.os → s₂.gens = s.gens → SrcR ι S s₂.heap a T src (i + 1) → RelV ι S s₂.heap v x → Q v s₂
theorem next_fin {M : Model} {a : Addr} {src : Src} {i tk : Nat} {x : V} {v : Value} {target : Expr} {E' : Value → Shared → Prop} {Q : Value → Shared → Prop} {h' : Heap} {o : Obj} {n : String} (hq : PostN ι S s a [a] src i x Q) (ho : h'.get? a = some o) (hc : o.cls = .type n) (hn : sharers.contains n = false) (hs : Heap.SameBut a s.heap h')
  (hr : Kept [a] s.heap h' → SrcR ι S h' a [a] src (i + 1) ∧ RelV ι S h' v x) : wpAny M A (letOwnedTupleGo target (.ref a) v) (fun _ s₂ => Q v s₂) E' { s with heap := h', toks := tk } :=
 letgo_plain (s := { s with heap := h', toks := tk }) ho hc hn (hq v { s with heap := h', toks := tk } (kept_one hs ho) rfl rfl (hr (kept_one hs ho)).1 (hr (kept_one hs ho)).2)
theorem next_enum {a it l : Addr} {i : Nat} {old v : Value} {us : List Value} {src : Src} {x : V} {ta : List Expr} {tb : Nat} {tc : Pos} {E' : Value → Shared → Prop} {N : Shared → Prop} {Q : Value → Shared → Prop} (R : Rel c ι S μ s) (hT : ∀ y ∈ [a, it], y ∈ S) (p : IsEnum s.heap a it i old) (q : s.heap.IsListIter it l i) (ne : a ≠ it) (pl : PL s.heap l us) (hv : us[i]? = some v) (rv : RelV ι S s.heap v x)
  (mk : ∀ {h''}, Kept [a, it] s.heap h'' → IsEnum h'' a it (i + 1) v → h''.IsListIter it l (i + 1) → SrcR ι S h'' a [a, it] src (i + 1)) (hq : PostN ι S s a [a, it] src i (.tup [.int i, x]) Q) :
  wpAny (model c.prog c.w) A (pyNext (.ref a)) (fun r s₁ => match r with | none => N s₁ | some v => wpAny (model c.prog c.w) A (letOwnedTupleGo (.Tuple ta tb tc) (.ref a) v) (fun _ s₂ => Q v s₂) E' s₁) E s := by
 refine wpAny_pyNext_enum_item p q pl.isList (by simpa using hv) ne fun h' hp hq' ht hsz hk => ?_
 refine wpAny_letOwnedTupleGo_enum (s := { s with heap := h', toks := s.toks + 1 }) hp fun h'' hp' hs' => ?_
 replace hs' : Heap.SameBut a h' h'' := hs'
 have K : Kept [a, it] s.heap h'' := by
  refine ⟨fun b o n z => (hs'.2 b (fun w => n (w ▸ .head _))).trans (hk b o (fun w => n (w ▸ .head _)) (fun w => n (w ▸ .tail _ (.head _))) z), fun b z => ?_⟩
  have z' := live_but hs' hp' b z
  cases w : s.heap.get? b with
  | none => rfl
  | some o =>
   by_cases h1 : b = a
   ·subst h1; rw [hp'] at z; cases z
   ·by_cases h2 : b = it
    ·subst h2; obtain ⟨o, ho, _⟩ := hq'; rw [ho] at z'; cases z'
    ·rw [hk b o h1 h2 w] at z'; cases z'
 have fr : s.heap.objs.size ≠ a := fun z => R.bound _ (hT a (.head _)) (z ▸ get_size _)
 refine hq (.ref s.heap.objs.size) { s with heap := h'', toks := s.toks + 1 } K rfl rfl (mk K (by simpa using hp') ?_) ?_
 ·obtain ⟨o, ho, z⟩ := hq'
  exact ⟨o, (hs'.2 it ne.symm).trans ho, z⟩
 ·exact .tup ⟨0, (hs'.2 _ fr).trans ht⟩ (not_owned_size R) (not_S_size R) (.cons (.int _ _) (.cons (rv.mono (K.ext (ι := ι)) hT) .nil))
theorem next_V {a : Addr} {T : List Addr} {src : Src} {i : Nat} {x : V} {target : Expr} {E' : Value → Shared → Prop} {N : Shared → Prop} {Q : Value → Shared → Prop} (R : Rel c ι S μ s) (sr : SrcR ι S s.heap a T src i) (hT : ∀ y ∈ T, y ∈ S) (e : src.at i μ = some (some x)) (ok : okT src target = true)
  (hq : PostN ι S s a T src i x Q) :
  wpAny (model c.prog c.w) A (pyNext (.ref a)) (fun r s₁ => match r with | none => N s₁ | some v => wpAny (model c.prog c.w) A (letOwnedTupleGo target (.ref a) v) (fun _ s₂ => Q v s₂) E' s₁) E s := by
 cases sr with
 | list p hn =>
  refine at_refE e fun xs hm e => R.lstO hn hm fun us pl q => (q.get e).elim fun v z => wpAny_pyNext_list_item p pl.isList (by simpa using z.1) fun h' hp hs => ?_
  obtain ⟨o, ho, hc, hd⟩ := id hp
  exact next_fin (tk := s.toks) hq ho hc (by decide) hs fun K => ⟨.list hp hn, z.2.mono (K.ext (ι := ι)) hT⟩
 | lstv p pl n1 n2 q =>
  refine (q.get (Option.some.inj e)).elim fun v z => wpAny_pyNext_list_item p pl.isList (by simpa using z.1) fun h' hp hs => ?_
  obtain ⟨o, ho, hc, hd⟩ := id hp
  exact next_fin (tk := s.toks) hq ho hc (by decide) hs fun K => ⟨.lstv hp (pl.at fun o e => K.keep _ o (fun z => n2 (hT _ z)) e) n1 n2 (q.mono (K.ext (ι := ι)) hT), z.2.mono (K.ext (ι := ι)) hT⟩
 | tup p pl n1 n2 q =>
  refine (q.get (Option.some.inj e)).elim fun v z => wpAny_pyNext_tuple_item p pl.isTuple (by simpa using z.1) fun h' hp hs => ?_
  obtain ⟨o, ho, hc, hd⟩ := id hp
  exact next_fin (tk := s.toks) hq ho hc (by decide) hs fun K => ⟨.tup hp (pl.at fun o e => K.keep _ o (fun z => n2 (hT _ z)) e) n1 n2 (q.mono (K.ext (ι := ι)) hT), z.2.mono (K.ext (ι := ι)) hT⟩
 | @rng _ lo hi p =>
  replace e := Option.some.inj e
  have hlt := getElem_some e
  simp only [rngItems, List.length_map, List.length_range] at hlt
  simp only [rngItems, List.getElem?_map, List.getElem?_range hlt, Option.map_some, Option.some.injEq] at e
  subst e
  refine wpAny_pyNext_range_item p (by lia) fun h' hp hs => next_fin hq hp rfl (by decide) hs fun K => ⟨.rng ?_, .int _ _⟩
  have e1 : lo + ((i + 1 : Nat) : Int) = lo + (i : Int) + 1 := by lia
  have e2 : (((hi - lo).toNat : Nat) : Int) - ((i + 1 : Nat) : Int) = (((hi - lo).toNat : Nat) : Int) - (i : Int) - 1 := by lia
  rw [e1, e2]
  exact hp
 | @str _ ty y t hty p =>
  replace e : (y.cps.toList.map fun c => V.str ⟨#[c]⟩)[i]? = some x := Option.some.inj e
  rw [List.getElem?_map] at e
  obtain ⟨cc, hc, rfl⟩ := Option.map_eq_some_iff.mp e
  have hc' : y.cps[i]? = some cc := by simpa using hc
  rcases hty with rfl | rfl
  ·refine wpAny_pyNext_ascii_item p hc' fun h' hp hs => ?_
   obtain ⟨o, ho, hc, hd⟩ := id hp
   exact next_fin hq ho hc (by decide) hs fun K => ⟨.str (.inl rfl) hp, .str _ _⟩
  ·refine wpAny_pyNext_wide_item p hc' fun h' hp hs => ?_
   obtain ⟨o, ho, hc, hd⟩ := id hp
   exact next_fin hq ho hc (by decide) hs fun K => ⟨.str (.inr rfl) hp, .str _ _⟩
 | enum p q ne hn =>
  obtain ⟨_, _, _, rfl⟩ := okT_tup ok
  refine at_enumE e fun xs hm e => ?_
  obtain ⟨x1, hx1, rfl⟩ := Option.map_eq_some_iff.mp e
  exact R.lstO hn hm fun us pl qs => (qs.get hx1).elim fun v z => next_enum R hT p q ne pl z.1 z.2 (fun _ a b => .enum a b ne hn) hq
 | enumv p q ne pl n1 n2 qs =>
  obtain ⟨_, _, _, rfl⟩ := okT_tup ok
  obtain ⟨x1, hx1, rfl⟩ := Option.map_eq_some_iff.mp (Option.some.inj e)
  exact (qs.get hx1).elim fun v z => next_enum R hT p q ne pl z.1 z.2 (fun K a b => .enumv a b ne (pl.at fun o e => K.keep _ o (fun z => n2 (hT _ z)) e) n1 n2 (qs.mono (K.ext (ι := ι)) hT)) hq
/-- nothing is left to draw -/
theorem end_V {a : Addr} {T : List Addr} {src : Src} {i : Nat} {N : Shared → Prop} {Q : Value → Shared → Prop} (hh : A.handled = none) (R : Rel c ι S μ s) (sr : SrcR ι S s.heap a T src i) (e : src.at i μ = some none)
  (hq : ∀ s₂, (∀ b o, b ∉ T → s.heap.get? b = some o → s₂.heap.get? b = some o) → s₂.os = s.os → s₂.gens = s.gens → N s₂) :
  wpAny (model c.prog c.w) A (pyNext (.ref a)) (fun r s₁ => match r with | none => N s₁ | some v => Q v s₁) E s := by
 have one : ∀ {x : Addr} {h' : Heap} {tk : Nat}, x ∈ T → Heap.ExtBut x s.heap h' → N { s with heap := h', toks := tk } := fun {x h' tk} hx k => hq { s with heap := h', toks := tk } (fun b o n z => k b o (fun w => n (w ▸ hx)) z) rfl rfl
 have len : ∀ {us : List Value} {xs : List V}, RelVs ι S s.heap us xs → xs[i]? = none → us.toArray[i]? = none := fun q e => by
  rw [Array.getElem?_eq_none_iff, List.size_toArray, q.length]; exact List.getElem?_eq_none_iff.mp e
 cases sr with
 | list p hn => exact at_refE e fun xs hm e => R.lstO hn hm fun us pl q => wpAny_pyNext_list_end hh p pl.isList (len q e) fun h' k => one (tk := s.toks) (.head _) k
 | lstv p pl n1 n2 q => exact wpAny_pyNext_list_end hh p pl.isList (len q (Option.some.inj e)) fun h' k => one (tk := s.toks) (.head _) k
 | tup p pl n1 n2 q => exact wpAny_pyNext_tuple_end hh p pl.isTuple (len q (Option.some.inj e)) fun h' k => one (tk := s.toks) (.head _) k
 | rng p =>
  have e := List.getElem?_eq_none_iff.mp (Option.some.inj e)
  simp only [rngItems, List.length_map, List.length_range] at e
  exact wpAny_pyNext_range_end hh p (by lia) fun h' k => one (tk := s.toks) (.head _) k
 | str hty p =>
  have e := List.getElem?_eq_none_iff.mp (Option.some.inj e)
  rw [List.length_map] at e
  rcases hty with rfl | rfl
  ·exact wpAny_pyNext_ascii_end hh p (by simpa using e) fun h' k => one (tk := s.toks) (.head _) k
  ·exact wpAny_pyNext_wide_end hh p (by simpa using e) fun h' k => one (tk := s.toks) (.head _) k
 | enum p q ne hn => exact at_enumE e fun xs hm e => R.lstO hn hm fun us pl qs => wpAny_pyNext_enum_end hh p q pl.isList (len qs (Option.map_eq_none_iff.mp e)) fun h' k => one (tk := s.toks) (.tail _ (.head _)) k
 | enumv p q ne pl n1 n2 qs => exact wpAny_pyNext_enum_end hh p q pl.isList (len qs (Option.map_eq_none_iff.mp (Option.some.inj e))) fun h' k => one (tk := s.toks) (.tail _ (.head _)) k
noncomputable def enumOf (v : V) (μ : Mem) : Option Src := V.casesOn (motive_1 := fun _ => Option Src) v none (fun _ => none) (fun _ => none) (fun _ => none) (fun _ => none) (fun vs => some (.enum (.vals vs))) (fun k => (lstAt μ k).map fun _ => Src.enum (.ref k)) fun _ _ => none
/-- enumerate(..) of a list -/
theorem enum_V {v : Value} {x : V} {src : Src} {Q : Value → Shared → Prop} (he : enumOf x μ = some src) (R : Rel c ι S μ s) (r : RelV ι S s.heap v x)
  (hq : ∀ a T s', (∀ b o, s.heap.get? b = some o → s'.heap.get? b = some o) → (∀ y ∈ T, s.heap.get? y = none) → Rel c ι (T ++ S) μ s' → SrcR ι (T ++ S) s'.heap a T src 0 → Q (.ref a) s') :
  wpAny (model c.prog c.w) A (call (.type "enumerate") [v]) Q E s := by
 have two : ∀ y ∈ [s.heap.objs.size + 1, s.heap.objs.size], s.heap.get? y = none := fun y hy => by
  rcases List.mem_cons.mp hy with rfl | hy
  ·cases q : s.heap.get? (s.heap.objs.size + 1) with
   | none => rfl
   | some o => exact absurd (Heap.lt_size q) (Nat.not_lt.mpr (Nat.le_succ _))
  ·rw [List.mem_singleton] at hy; subst hy; exact get_size _
 have mk : ∀ {h' : Heap}, IsEnum h' (s.heap.objs.size + 1) s.heap.objs.size 0 .none → (∃ l, h'.IsListIter s.heap.objs.size l 0) → (∀ b o, s.heap.get? b = some o → h'.get? b = some o) → Rel c ι ([s.heap.objs.size + 1, s.heap.objs.size] ++ S) μ { s with heap := h' } := fun {h'} h1 h2 k =>
  R.addS _ two (fun y hy => by
   show h'.get? y ≠ none
   rcases List.mem_cons.mp hy with rfl | hy
   ·rw [h1]; simp
   ·rw [List.mem_singleton] at hy; subst hy
    obtain ⟨l, o, ho, _⟩ := h2
    rw [ho]; simp) k rfl rfl
 have ne : s.heap.objs.size + 1 ≠ s.heap.objs.size := Nat.ne_of_gt (Nat.lt_succ_self _)
 have nin : ∀ {l : Addr}, s.heap.get? l ≠ none → l ∉ S → l ∉ [s.heap.objs.size + 1, s.heap.objs.size] ++ S := fun {l} e n q => by
  rcases List.mem_append.mp q with q | q
  ·exact e (two l q)
  ·exact n q
 cases x with
 | ref k =>
  obtain ⟨xs, hm, he⟩ := Option.map_eq_some_iff.mp (show (lstAt μ k).map (fun _ => Src.enum (.ref k)) = some src from he)
  cases he
  exact R.lstI (P := fun z => wpAny _ _ (call _ [z]) _ _ _) r (of_lstAt hm) fun a hn => R.lstO hn (of_lstAt hm) fun _ p _ => call_enumerate_list p.isList fun h' h1 h2 _ k => hq _ _ { s with heap := h' } k two (mk h1 ⟨_, h2⟩ k) (.enum h1 h2 ne hn)
 | lst vs =>
  cases (show some (Src.enum (.vals vs)) = some src from he)
  exact r.seqI (P := fun z => wpAny _ _ (call _ [z]) _ _ _) fun a us p n1 n2 q => call_enumerate_list p.isList fun h' h1 h2 _ k => hq _ _ { s with heap := h' } k two (mk h1 ⟨_, h2⟩ k) (.enumv h1 h2 ne (p.at (k _)) n1 (nin p.live n2) ((q.add _ two).mono (X := []) (Ext.of_keeps k) nofun))
 | _ => exact nn he
end
end Mine
set_option tactic.hygienic true
set_option tactic.hygienic false
namespace Mine
open PySem.W
section
variable {prog : Program} {w : World} {A : Around} {E : Value → Shared → Prop} {R : Result → Shared → Prop} {s : Shared}
theorem for_step {target it body orelse env}
  (turn : wpAny (model prog w) A (pyNext it) (fun r s₁ => match r with
   | none => wpAny (model prog w) A (execs orelse env) (fun f s₃ => R (.ok f) s₃) (notedBy (model prog w) A env fun e s' => R (.error e) s') s₁
   | some v => wpAny (model prog w) A (letOwnedTupleGo target it v) (fun _ s₁' =>
     wpAny (model prog w) A (assign target env v) (fun _ s₂ => wpAny (model prog w) A (execs body env) (fun f s₃ => match f with
      | .next | .cont => codeAny (model prog w) A (.forLoop target it body orelse env) R s₃
      | .brk => R (.ok .next) s₃
      | .ret v => R (.ok (.ret v)) s₃) (notedBy (model prog w) A env fun e s' => R (.error e) s') s₂) (notedBy (model prog w) A env fun e s' => R (.error e) s') s₁') (notedBy (model prog w) A env fun e s' => R (.error e) s') s₁) (notedBy (model prog w) A env fun e s' => R (.error e) s') s) :
  codeAny (model prog w) A (.forLoop target it body orelse env) R s := by
 refine codeAny_of_tree ?_
 show wpAny _ A ((forTurn target it body orelse env).onRaise (fun x => do noteFrame x env; theTreesLotGoes x)) _ _ s
 refine wpAny_noted ?_
 simp only [forTurn]
 refine wpAny_bind (wpAny_standAt (wpAny_bind (wpAny_onRaise (wpAny_mono turn (fun r s₁ h₁ => ?_) fun _ _ h' => wpAny_standAt h'))))
 cases r with
 | none => exact wpAny_pure ⟨rfl, codeAny_block h₁⟩
 | some v =>
  refine wpAny_bind (wpAny_mono h₁ (fun _ s₁' h₁' => ?_) fun _ _ h' => h')
  refine wpAny_bind (wpAny_mono h₁' (fun _ s₂ h₂ => wpAny_bind (wpAny_mono h₂ (fun f s₃ h₃ => ?_) fun _ _ h' => h')) fun _ _ h' => h')
  cases f with
  | next => exact wpAny_pure ⟨rfl, h₃⟩
  | cont => exact wpAny_pure ⟨rfl, h₃⟩
  | brk => exact wpAny_pure h₃
  | ret v => exact wpAny_pure h₃
theorem while_step {test body orelse env}
  (turn : wpAny (model prog w) A (isTrue test env (eval test env)) (fun b s₂ =>
    if b then wpAny (model prog w) A (execs body env) (fun f s₃ => match f with
      | .next | .cont => codeAny (model prog w) A (.whileLoop test body orelse env) R s₃
      | .brk => R (.ok .next) s₃
      | .ret v => R (.ok (.ret v)) s₃) (notedBy (model prog w) A env fun e s' => R (.error e) s') s₂
    else wpAny (model prog w) A (execs orelse env) (fun f s₃ => R (.ok f) s₃) (notedBy (model prog w) A env fun e s' => R (.error e) s') s₂)
    (notedBy (model prog w) A env fun e s' => R (.error e) s') s) : codeAny (model prog w) A (.whileLoop test body orelse env) R s := by
 refine codeAny_of_tree ?_
 show wpAny _ A ((whileTurn test body orelse env).onRaise (fun x => do noteFrame x env; theTreesLotGoes x)) _ _ s
 refine wpAny_noted ?_
 simp only [whileTurn]
 refine wpAny_bind (wpAny_mono turn (fun b s₂ h₂ => ?_) fun _ _ h' => h')
 cases b with
 | false =>
  refine wpAny_ite_false rfl ?_
  exact wpAny_bind (wpAny_mono (show wpAny _ _ (execs orelse env) _ _ _ from h₂) (fun f s₃ h₃ => wpAny_pure h₃) fun _ _ h' => h')
 | true =>
  refine wpAny_ite_true rfl ?_
  refine wpAny_bind (wpAny_mono (show wpAny _ _ (execs body env) _ _ _ from h₂) (fun f s₃ h₃ => ?_) fun _ _ h' => h')
  cases f with
  | next => exact wpAny_pure ⟨rfl, h₃⟩
  | cont => exact wpAny_pure ⟨rfl, h₃⟩
  | brk => exact wpAny_pure h₃
  | ret v => exact wpAny_pure h₃
abbrev ifsTree (env : Env) (ifs : List Expr) : Sem Bool := forIn ifs true fun c r => if r = true then do let ok ← isTrue c env (eval c env); pure (ForInStep.yield ok) else pure (ForInStep.yield r)
theorem compStart_step {elt : Expr} {gens : List Comprehension} {scope : Scope} {pos : Pos} {d : Nat} {g : Comprehension} {it acc : Value} {env : Env} (hg : gens[d]? = some g) (ha : g.is_async = 0)
  (h0 : codeAny (model prog w) A (.compLoop (.ListComp elt gens scope pos) d it acc env) R s)
  (h : wpAny (model prog w) A (pyIter it) (fun it' s' => codeAny (model prog w) A (.compLoop (.ListComp elt gens scope pos) d it' acc env) R s')
   (notedBy (model prog w) A env fun x s' => R (.error x) s') s) :
  codeAny (model prog w) A (.compStart (.ListComp elt gens scope pos) d it acc env) R s := by
 refine codeAny_of_tree ?_
 show wpAny _ _ ((compStart (.ListComp elt gens scope pos) d it acc env).onRaise (fun x => do noteFrame x env; standAt theWindowsPlace)) _ _ s
 refine wpAny_notedAt ?_
 have hc : (clausesOf (.ListComp elt gens scope pos))[d]? = some g := hg
 unfold compStart
 rw [hc]
 refine wpAny_ite_false (decide_eq_false (by show ¬ ((g.is_async != 0) = true); rw [ha]; exact nofun)) ?_
 show wpAny _ _ (ask >>= _) _ _ s
 refine wpAny_bind (wpAny_askSetting (wpAny_ite ?_))
 split
 ·first
   | exact wpAny_bind (wpAny_pure (wpAny_pure (And.intro rfl h0)))
   | exact wpAny_pure (And.intro rfl h0)
 ·first
   | exact wpAny_bind (wpAny_rule (wpAny_bind (wpAny_standAt (wpAny_bind (wpAny_mono h (fun it' s' h' => wpAny_pure (And.intro rfl h')) fun _ _ x => x)))))
   | (refine wpAny_bind (wpAny_rule ?_); show wpAny _ _ (standAt g.iter.pos >>= _) _ _ s; exact wpAny_bind (wpAny_standAt (wpAny_bind (wpAny_mono h (fun it' s' h' => wpAny_pure (And.intro rfl h')) fun _ _ x => x))))
theorem comp_step {elt : Expr} {gens : List Comprehension} {scope : Scope} {pos : Pos} {d : Nat} {g : Comprehension} {it acc : Value} {env : Env} (hg : gens[d]? = some g) (ha : g.is_async = 0)
  (hnx : ∀ g', gens[d + 1]? = some g' → g'.is_async = 0 ∧ ∀ x, foldedSetIterable g'.iter env x = pure x)
  (turn : wpAny (model prog w) A (pyNext it) (fun r s₁ => match r with
   | none => R (.ok .next) s₁
   | some v => wpAny (model prog w) A (letOwnedTupleGo g.target it v) (fun _ s₁' => wpAny (model prog w) A (assign g.target env v) (fun _ s₂ =>
     wpAny (model prog w) A (ifsTree env g.ifs) (fun ok s₃ =>
      if ok = true then (match gens[d + 1]? with
       | none => wpAny (model prog w) A (eval elt env) (fun x s₄ =>
         wpAny (model prog w) A (call (.builtin "list.append") [acc, x]) (fun _ s₅ => codeAny (model prog w) A (.compLoop (.ListComp elt gens scope pos) d it acc env) R s₅) (notedBy (model prog w) A env fun e s' => R (.error e) s') s₄) (notedBy (model prog w) A env fun e s' => R (.error e) s') s₃
       | some g' => wpAny (model prog w) A (eval g'.iter env) (fun x s₄ => wpAny (model prog w) A (pyIter x) (fun it' s₅ =>
         codeAny (model prog w) A (.compStart (.ListComp elt gens scope pos) (d + 1) it' acc env) (fun r s' => match r with
          | .ok _ => codeAny (model prog w) A (.compLoop (.ListComp elt gens scope pos) d it acc env) R s'
          | .error e => cameBackBy (model prog w) A env (notedBy (model prog w) A env fun e s' => R (.error e) s') e s') s₅) (notedBy (model prog w) A env fun e s' => R (.error e) s') s₄) (notedBy (model prog w) A env fun e s' => R (.error e) s') s₃)
      else codeAny (model prog w) A (.compLoop (.ListComp elt gens scope pos) d it acc env) R s₃) (notedBy (model prog w) A env fun e s' => R (.error e) s') s₂) (notedBy (model prog w) A env fun e s' => R (.error e) s') s₁') (notedBy (model prog w) A env fun e s' => R (.error e) s') s₁) (notedBy (model prog w) A env fun e s' => R (.error e) s') s) :
  codeAny (model prog w) A (.compLoop (.ListComp elt gens scope pos) d it acc env) R s := by
 refine codeAny_of_tree ?_
 show wpAny _ _ ((compTurn (.ListComp elt gens scope pos) d it acc env).onRaise (fun x => do noteFrame x env; theTreesLotGoes x)) _ _ s
 refine wpAny_noted ?_
 have nz : ∀ {g : Comprehension}, g.is_async = 0 → decide ((g.is_async != 0) = true) = false := fun h => decide_eq_false (by rw [h]; exact nofun)
 unfold compTurn
 dsimp only
 rw [hg]
 refine wpAny_bind (wpAny_standAt (wpAny_ite_false (nz ha) (wpAny_bind (wpAny_mono turn (fun r s₁ h₁ => ?_) fun _ _ h' => h'))))
 cases r with
 | none => exact wpAny_pure h₁
 | some v =>
  refine wpAny_bind (wpAny_mono h₁ (fun _ s₁' h₁' => ?_) fun _ _ h' => h')
  refine wpAny_bind (wpAny_mono h₁' (fun _ s₂ h₂ => wpAny_bind (wpAny_mono h₂ (fun ok s₃ h₃ => ?_) fun _ _ h' => h')) fun _ _ h' => h')
  cases ok with
  | false => exact wpAny_pure ⟨rfl, h₃⟩
  | true =>
   replace h₃ := (if_pos rfl).mp h₃
   refine wpAny_ite_true rfl ?_
   cases hn : gens[d + 1]? with
   | none =>
    rw [hn] at h₃
    refine wpAny_bind (wpAny_bind (wpAny_mono h₃ (fun x s₄ h₄ => wpAny_bind (wpAny_mono h₄ (fun _ s₅ h₅ => wpAny_pure (wpAny_pure ⟨rfl, h₅⟩)) fun _ _ h' => h')) fun _ _ h' => h'))
   | some g' =>
    rw [hn] at h₃
    obtain ⟨hz', hf⟩ := hnx g' hn
    refine wpAny_bind (wpAny_mono h₃ (fun x s₄ h₄ => wpAny_bind (wpAny_standAt (wpAny_ite_false (nz hz') (wpAny_bind ((hf x).symm ▸ wpAny_pure ?_))))) fun _ _ h' => h')
    refine wpAny_bind (wpAny_holding (wpAny_ite_false (nz hz') (wpAny_mono h₄ (fun it' s₅ h₅ => ?_) fun _ _ h' => h')))
    refine wpAny_bind (wpAny_runOwn ?_)
    rw [Around.mark_none]
    refine codeAny_mono h₅ fun r s' hr => ?_
    cases r with
    | error e => exact hr
    | ok f => exact wpAny_pure ⟨rfl, hr⟩
end
end Mine
set_option tactic.hygienic true
set_option tactic.hygienic false
namespace Mine
open PySem.W
/-- all but X stays; T is lost -/
structure ExtT (X T : List Addr) (ι : Own) (h : Heap) (ι' : Own) (h' : Heap) : Prop where
 pre : ∃ r, ι' = ι ++ r
 keep : ∀ b o, b ∉ owned ι → b ∉ X → b ∉ T → h.get? b = some o → h'.get? b = some o
 fresh : ∀ a ∈ owned ι', a ∈ owned ι ∨ h.get? a = none
 live : ∀ a, a ∉ T → h'.get? a = none → h.get? a = none
section
variable {X X' Y T : List Addr} {ι ι' ι'' : Own} {h h' h'' : Heap}
theorem ExtT.of (E : Ext X ι h ι' h') : ExtT X T ι h ι' h' := ⟨E.pre, fun b o n1 n2 _ e => E.keep b o n1 n2 e, E.fresh, fun a _ e => E.live a e⟩
theorem ExtT.kept (K : Kept T h h') : ExtT X T ι h ι h' := ⟨⟨[], by simp⟩, fun b o _ _ n e => K.keep b o n e, fun _ a => .inl a, fun a _ e => K.live a e⟩
theorem ExtT.gone (k : ∀ b o, b ∉ T → h.get? b = some o → h'.get? b = some o) : ExtT X T ι h ι h' := ⟨⟨[], by simp⟩, fun b o _ _ n e => k b o n e, fun _ a => .inl a, fun a n e => by
 cases q : h.get? a with
 | none => rfl
 | some o => rw [k a o n q] at e; cases e⟩
theorem ExtT.trans (a : ExtT X T ι h ι' h') (b : ExtT X T ι' h' ι'' h'') (hT : ∀ x ∈ T, x ∉ owned ι'') (_hT' : ∀ x ∈ T, h.get? x ≠ none) : ExtT X T ι h ι'' h'' := by
 refine ⟨?_, fun c o n1 n2 n3 e => ?_, fun c hc => ?_, fun c n e => a.live c n (b.live c n e)⟩
 ·obtain ⟨r, rfl⟩ := a.pre
  obtain ⟨r', rfl⟩ := b.pre
  exact ⟨r ++ r', by simp⟩
 ·refine b.keep c o (fun hc => ?_) n2 n3 (a.keep c o n1 n2 n3 e)
  rcases a.fresh c hc with q | q
  ·exact n1 q
  ·rw [e] at q; cases q
 ·rcases b.fresh c hc with q | q
  ·exact a.fresh c q
  ·exact .inr (a.live c (fun z => hT c z hc) q)
theorem ExtT.outer {ι₀ : Own} {h₀ : Heap} (E : Ext Y ι₀ h₀ ι h) (hY : ∀ x ∈ Y, x ∈ X ∨ h₀.get? x = none) (hT : ∀ x ∈ T, h₀.get? x = none) (a : ExtT X T ι h ι' h') : Ext X ι₀ h₀ ι' h' := by
 refine ⟨?_, fun b o n1 n2 e => ?_, fun b hb => ?_, fun b e => ?_⟩
 ·obtain ⟨r, rfl⟩ := E.pre
  obtain ⟨r', rfl⟩ := a.pre
  exact ⟨r ++ r', by simp⟩
 ·have e1 := E.keep b o n1 (fun q => (hY b q).elim n2 fun z => by rw [e] at z; cases z) e
  refine a.keep b o (fun q => ?_) n2 (fun q => by rw [hT b q] at e; cases e) e1
  rcases E.fresh b q with z | z
  ·exact n1 z
  ·rw [e] at z; cases z
 ·rcases a.fresh b hb with q | q
  ·exact E.fresh b q
  ·exact .inr (E.live b q)
 ·by_cases q : b ∈ T
  ·exact hT b q
  ·exact E.live b (a.live b q e)
theorem Ext.shrink (E : Ext X ι h ι' h') (s : ∀ x ∈ X, x ∈ X' ∨ h.get? x = none) : Ext X' ι h ι' h' :=
 ⟨E.pre, fun b o n1 n2 e => E.keep b o n1 (fun q => (s b q).elim n2 fun z => by rw [e] at z; cases z) e, E.fresh, E.live⟩
end
structure Good (c : Cx) : Prop extends Good2 c where
 cls' : ∀ C, clsTable.contains C = true → ∃ Ca, c.cls C = some Ca ∧ nsIn c.K mainGlobals C = some (some (.ref Ca))
 meth : ∀ C m D d, methodOf C m = some (D, d) → ∃ Ca x, c.cls C = some Ca ∧ findIn c.K (.ref Ca) m = some (some (.ref x.f)) ∧ FnOk c x D ∧ x.Is d
 sup : ∀ C at_ m D d, superOf C at_ m = some (D, d) → ∃ Ca Da x, c.cls C = some Ca ∧ c.cls at_ = some Da ∧ mroIn c.K Ca (.ref Da) = some true ∧ ks_superIn c.K Ca Da m = some (some (.ref x.f)) ∧ (m == ("__class__" : Str)) = false ∧ FnOk c x D ∧ x.Is d
 fn : ∀ f d, topFn f = some d → ∃ x, nsIn c.K mainGlobals f = some (some (.ref x.f)) ∧ FnOk c x Str.empty ∧ x.Is d
 bl : ∀ f, bltns.contains f = true → nsIn c.K mainGlobals f = some none
inductive RelFl (ι : Own) (S : List Addr) (h : Heap) : Flow → Fl → Prop
 | next : RelFl ι S h .next .next
 | ret {v : Value} {x : V} : RelV ι S h v x → RelFl ι S h (.ret v) (.ret x)
noncomputable def bval (f : Str) : Value :=
 if f = "len" then .builtin "len" else if f = "list" then .type "list" else if f = "tuple" then .type "tuple" else if f = "dict" then .type "dict" else if f = "range" then .type "range"
 else if f = "sorted" then .builtin "sorted" else if f = "sum" then .builtin "sum" else if f = "max" then .builtin "max" else .type "int"
inductive GlobR (c : Cx) (f : Str) : Value → Prop
 | bl : isBltn f = true → GlobR c f (bval f)
 | fn {d : Stmt} {x : Fn} : isBltn f = false → topFn f = some d → FnOk c x Str.empty → x.Is d → GlobR c f (.ref x.f)
 | cls {Ca : Addr} : isBltn f = false → topFn f = none → clsTable.contains f = true → c.cls f = some Ca → GlobR c f (.ref Ca)
abbrev PostVs (c : Cx) (ι : Own) (S : List Addr) (h : Heap) (μ' : Mem) (xs : List V) (Q : List Value → Shared → Prop) : Prop :=
 ∀ vs ι' s', Ext [] ι h ι' s'.heap → Rel c ι' S μ' s' → RelVs ι' S s'.heap vs xs → Q vs s'
abbrev PostU (c : Cx) (ι : Own) (S : List Addr) (h : Heap) (μ' : Mem) (env : Env) (hh : Here) (ρ' : Loc) (Q : Unit → Shared → Prop) : Prop :=
 ∀ ι' s', Ext (ownA env hh) ι h ι' s'.heap → Rel c ι' S μ' s' → EnvR env hh ι' S ρ' s'.heap → Q () s'
abbrev PostF (c : Cx) (ι : Own) (S : List Addr) (h : Heap) (μ' : Mem) (env : Env) (hh : Here) (ρ' : Loc) (fl : Fl) (Q : Flow → Shared → Prop) : Prop :=
 ∀ f ι' s', Ext (ownA env hh) ι h ι' s'.heap → Rel c ι' S μ' s' → EnvR env hh ι' S ρ' s'.heap → RelFl ι' S s'.heap f fl → Q f s'
/-- where the things of an iterator may lie -/
structure Apart (env : Env) (hh : Here) (S T : List Addr) : Prop where
 S : ∀ a ∈ S, a ∉ T
 own : ∀ a ∈ T, a ∉ ownA env hh
 loc : ∀ a ∈ T, a ≠ env.locals ∧ ∀ y cl, isLoc hh.sc y = true → env.kindOf y ≠ some .local → env.cells.lookup y = some cl → cl ≠ a
noncomputable def W1 {α : Type} (x : Option α) (Q : α → Prop) : Prop := ∃ a, x = some a ∧ Q a
noncomputable def W2 {α β : Type} (x : (α → β → Prop) → Prop) (Q : α → β → Prop) : Prop := x Q
noncomputable def W3 {α β γ : Type} (x : (α → β → γ → Prop) → Prop) (Q : α → β → γ → Prop) : Prop := x Q
abbrev PostB (c : Cx) (ι : Own) (S : List Addr) (h : Heap) (μ' : Mem) (b : Bool) (Q : Bool → Shared → Prop) : Prop :=
 ∀ ι' s', Ext [] ι h ι' s'.heap → Rel c ι' S μ' s' → Q b s'
section
variable (n : Nat) (e : Expr) (es : List Expr) (h : Here) (ρ : Loc) (μ : Mem)
noncomputable def ev (q : V → Mem → Prop) : Prop := ∀ ⦃c A E s ι S env Q⦄, Good c → Room A n → Rel c ι S μ s → EnvR env h ι S ρ s.heap → (∀ x μ', q x μ' → PostV c ι S s.heap μ' x Q) → wpAny (model c.prog c.w) A (eval e env) Q E s
noncomputable def src (q : Src → Mem → Prop) : Prop := ∀ ⦃c A E s ι S env⦄ ⦃Q : Value → Shared → Prop⦄, Good c → Room A n → Rel c ι S μ s → EnvR env h ι S ρ s.heap →
 (∀ sr μ', q sr μ' → ∀ a T ι' s', Ext [] ι s.heap ι' s'.heap → (∀ y ∈ T, s.heap.get? y = none) → Rel c ι' (T ++ S) μ' s' → SrcR ι' (T ++ S) s'.heap a T sr 0 → Q (.ref a) s') →
 wpAny (model c.prog c.w) A (eval e env) (fun v s₁ => wpAny (model c.prog c.w) A (pyIter v) Q E s₁) E s
noncomputable def evo (n : Nat) (o : Option Expr) (h : Here) (ρ : Loc) (μ : Mem) (q : Option Int → Mem → Prop) : Prop := ∀ ⦃c A E s ι S env⦄ ⦃Q : Value → Shared → Prop⦄, Good c → Room A n → Rel c ι S μ s → EnvR env h ι S ρ s.heap →
 (∀ i μ', q i μ' → ∀ v ι' s', Ext [] ι s.heap ι' s'.heap → Rel c ι' S μ' s' → IsPart v i → Q v s') → wpAny (model c.prog c.w) A (evalPart o env) Q E s
noncomputable def evs (q : List V → Mem → Prop) : Prop := noStar es = true → ∀ ⦃c A E s ι S env pos Q⦄, Good c → Room A n → Rel c ι S μ s → EnvR env h ι S ρ s.heap →
 (∀ xs μ', xs.length = es.length → q xs μ' → PostVs c ι S s.heap μ' xs Q) → wpAny (model c.prog c.w) A (spliced (backTo pos (starEach es env))) Q E s
noncomputable def tst (q : Bool → Mem → Prop) : Prop := ∀ ⦃c A E s ι S env Q⦄, Good c → Room A n → Rel c ι S μ s → EnvR env h ι S ρ s.heap → (∀ b μ', q b μ' → PostB c ι S s.heap μ' b Q) → wpAny (model c.prog c.w) A (isTrue e env (eval e env)) Q E s
noncomputable def tsts (n : Nat) (op : BoolOp) (es : List Expr) (h : Here) (ρ : Loc) (μ : Mem) (q : Bool → Mem → Prop) : Prop := ∀ ⦃c A E s ι S env Q⦄, Good c → Room A n → Rel c ι S μ s → EnvR env h ι S ρ s.heap → (∀ b μ', q b μ' → PostB c ι S s.heap μ' b Q) → wpAny (model c.prog c.w) A (allTrue op es env) Q E s
noncomputable def ifs (q : Bool → Mem → Prop) : Prop := ∀ ⦃c A E s ι S env Q⦄, Good c → Room A n → Rel c ι S μ s → EnvR env h ι S ρ s.heap → (∀ b μ', q b μ' → PostB c ι S s.heap μ' b Q) → wpAny (model c.prog c.w) A (ifsTree env es) Q E s
noncomputable def asgG (v : V) (q : Loc → Mem → Prop) : Prop := ∀ ⦃c A E s ι S env u Q⦄, Good c → Room A n → Rel c ι S μ s → EnvR env h ι S ρ s.heap → RelV ι S s.heap u v → (∀ ρ' μ', q ρ' μ' → PostU c ι S s.heap μ' env h ρ' Q) → wpAny (model c.prog c.w) A (assign e env u) Q E s
end
/-- a store; to a name it is what it is -/
noncomputable def asg (n : Nat) (t : Expr) (v : V) (h : Here) (ρ : Loc) (μ : Mem) (q : Loc → Mem → Prop) : Prop := match nameOf t with
 | some x => isOwn h.sc x = true ∧ q (put ρ x v) μ
 | none => asgG n t h ρ μ v q
noncomputable def asgs (n : Nat) : List Expr → List V → Here → Loc → Mem → (Loc → Mem → Prop) → Prop
 | t :: ts, v :: vs, h, ρ, μ, q => asg n t v h ρ μ fun ρ μ => asgs n ts vs h ρ μ q
 | [], [], _, ρ, μ, q => q ρ μ
 | _, _, _, _, _, _ => False
/-- as many stores as things -/
noncomputable def asgsL (n : Nat) (ts : List Expr) (vs : List V) (h : Here) (ρ : Loc) (μ : Mem) (q : Loc → Mem → Prop) : Prop := ts.length = vs.length ∧ asgs n ts vs h ρ μ q
noncomputable def cmpL (n : Nat) (elt : Expr) (g : Comprehension) (rest : List Comprehension) (sr : Src) (i : Nat) (h : Here) (ρ : Loc) (acc : List V) (μ : Mem) (q : List V → Loc → Mem → Prop) : Prop :=
 ∀ ⦃c A s ι S T env gens scope pos d a D items⦄ ⦃Rs : Result → Shared → Prop⦄, Good c → gens[d]? = some g → gens.drop (d + 1) = rest → (∀ g ∈ gens, genOk g = true) →
  Room A n → Rel c ι (T ++ S) μ s → EnvR env h ι (T ++ S) ρ s.heap → EnvR env h ι S ρ s.heap → SrcR ι (T ++ S) s.heap a T sr i → Apart env h S T → Apart env h [] [D] → D ∈ S → PL s.heap D items → RelVs ι (T ++ S) s.heap items acc →
  (∀ acc' ρ' μ', q acc' ρ' μ' → ∀ ι' s' items', ExtT (D :: ownA env h) T ι s.heap ι' s'.heap → Rel c ι' S μ' s' → EnvR env h ι' S ρ' s'.heap → PL s'.heap D items' → RelVs ι' S s'.heap items' acc' → Rs (.ok .next) s') →
  codeAny (model c.prog c.w) A (.compLoop (.ListComp elt gens scope pos) d (.ref a) (.ref D) env) Rs s
noncomputable def evCall (n : Nat) (f : Expr) (args : List Expr) (h : Here) (ρ : Loc) (μ : Mem) (q : V → Mem → Prop) : Prop := ∀ ⦃c A E s ι S env pos Q⦄, callOk f args pos = true → Good c → Room A n → Rel c ι S μ s → EnvR env h ι S ρ s.heap → (∀ x μ', q x μ' → PostV c ι S s.heap μ' x Q) → wpAny (model c.prog c.w) A (eval (.Call f args [] pos) env) Q E s
noncomputable def glob (n : Nat) (f : Str) (xs : List V) (μ : Mem) (q : V → Mem → Prop) : Prop := ∀ ⦃c A E s ι S g vs Q⦄, GlobR c f g → Good c → Room A n → Rel c ι S μ s → RelVs ι S s.heap vs xs → (∀ x μ', q x μ' → PostV c ι S s.heap μ' x Q) → wpAny (model c.prog c.w) A (call g vs) Q E s
/-- a built-in -/
noncomputable def bltn (f : Str) (xs : List V) (μ : Mem) (q : V → Mem → Prop) : Prop := ∀ ⦃c A E s ι S vs Q⦄, Good c → A.handled = none → A.units + 12 < cLine → Rel c ι S μ s → RelVs ι S s.heap vs xs → (∀ x μ', q x μ' → PostV c ι S s.heap μ' x Q) → wpAny (model c.prog c.w) A (call (bval f) vs) Q E s
noncomputable def callD (n : Nat) (D : Str) (d : Stmt) (xs : List V) (μ : Mem) (q : V → Mem → Prop) : Prop := ∀ ⦃c A s ι S vs⦄ ⦃fn : Fn⦄ ⦃Rs : Result → Shared → Prop⦄, Good c → FnOk c fn D → fn.Is d → Room A n → Rel c ι S μ s → RelVs ι S s.heap vs xs →
 (∀ x μ', q x μ' → ∀ v ι' s', Ext [] ι s.heap ι' s'.heap → Rel c ι' S μ' s' → RelV ι' S s'.heap v x → Rs (.ok (.ret v)) s') → codeAny (model c.prog c.w) A (.call (.ref fn.f) ⟨vs, []⟩) Rs s
noncomputable def exB (n : Nat) (ss : List Stmt) (h : Here) (ρ : Loc) (μ : Mem) (q : Fl → Loc → Mem → Prop) : Prop := ∀ ⦃c A E s ι S env Q⦄ ⦃fn : Fn⦄, Good c → FnOk c fn h.cls → FrameOf fn env → h.sc = fn.sc → ((h.sc.names.lookup ("super" : Str)).isSome = false ∨ SupFn c fn h.cls) → Room A n → Rel c ι S μ s → EnvR env h ι S ρ s.heap →
 (∀ fl ρ' μ', q fl ρ' μ' → PostF c ι S s.heap μ' env h ρ' fl Q) → _root_.PySem.wpAt (model c.prog c.w) A (.func fn.body env) (execs ss env) Q E s
noncomputable def supC (n : Nat) (m : Str) (args : List Expr) (h : Here) (ρ : Loc) (μ : Mem) (q : V → Mem → Prop) : Prop := ∀ ⦃c A E s ι S env p0 p1 apos pos Q⦄ ⦃fn : Fn⦄, Good c → FnOk c fn h.cls → FrameOf fn env → h.sc = fn.sc → SupFn c fn h.cls → apos.endLine = pos.line → args.length < 30 → noStar args = true → Room A n → Rel c ι S μ s → EnvR env h ι S ρ s.heap →
 (∀ x μ', q x μ' → PostV c ι S s.heap μ' x Q) → _root_.PySem.wpAt (model c.prog c.w) A (.func fn.body env) (eval (.Call (.Attribute (.Call (.Name "super" p0) [] [] p1) m apos) args [] pos) env) Q E s
noncomputable def exs (n : Nat) (ss : List Stmt) (h : Here) (ρ : Loc) (μ : Mem) (q : Fl → Loc → Mem → Prop) : Prop := ∀ ⦃c A E s ι S env Q⦄, Good c → Room A n → Rel c ι S μ s → EnvR env h ι S ρ s.heap → (∀ fl ρ' μ', q fl ρ' μ' → PostF c ι S s.heap μ' env h ρ' fl Q) → wpAny (model c.prog c.w) A (execs ss env) Q E s
noncomputable def ex (n : Nat) (st : Stmt) (h : Here) (ρ : Loc) (μ : Mem) (q : Fl → Loc → Mem → Prop) : Prop := ∀ ⦃c A E s ι S env Q⦄, Good c → Room A n → Rel c ι S μ s → EnvR env h ι S ρ s.heap → (∀ fl ρ' μ', q fl ρ' μ' → PostF c ι S s.heap μ' env h ρ' fl Q) → wpAny (model c.prog c.w) A (exec st env) Q E s
noncomputable def whl (n : Nat) (t : Expr) (b : List Stmt) (h : Here) (ρ : Loc) (μ : Mem) (q : Fl → Loc → Mem → Prop) : Prop := ∀ ⦃c A s ι S env⦄ ⦃Rs : Result → Shared → Prop⦄, Good c → Room A n → Rel c ι S μ s → EnvR env h ι S ρ s.heap → (∀ fl ρ' μ', q fl ρ' μ' → PostF c ι S s.heap μ' env h ρ' fl (fun f s' => Rs (.ok f) s')) → codeAny (model c.prog c.w) A (.whileLoop t b [] env) Rs s
noncomputable def fr (n : Nat) (t : Expr) (b : List Stmt) (sr : Src) (i : Nat) (h : Here) (ρ : Loc) (μ : Mem) (q : Fl → Loc → Mem → Prop) : Prop := ∀ ⦃c A s ι S T env a⦄ ⦃Rs : Result → Shared → Prop⦄, Good c → Room A n → Rel c ι (T ++ S) μ s → EnvR env h ι (T ++ S) ρ s.heap → EnvR env h ι S ρ s.heap → SrcR ι (T ++ S) s.heap a T sr i → Apart env h S T →
 (∀ fl ρ' μ', q fl ρ' μ' → ∀ f ι' s', ExtT (ownA env h) T ι s.heap ι' s'.heap → Rel c ι' S μ' s' → EnvR env h ι' S ρ' s'.heap → RelFl ι' S s'.heap f fl → Rs (.ok f) s') → codeAny (model c.prog c.w) A (.forLoop t (.ref a) b [] env) Rs s
end Mine
set_option tactic.hygienic true
set_option tactic.hygienic false
namespace Mine
open PySem.W
section
variable {c : Cx} {n : Nat} {A : Around} {E : Value → Shared → Prop} {s : Shared} {ι : Own} {S : List Addr} {env : Env} {h : Here} {ρ ρ' : Loc} {μ μ' : Mem}
theorem EnvR.restrict {S' : List Addr} {hp : Heap} (r : EnvR env h ι S' ρ hp) (hs : ∀ x ∈ S, x ∈ S') (hi : ∀ a ∈ ownA env h, a ∈ S) (hc : ∀ x cl, isLoc h.sc x = true → env.kindOf x ≠ some .local → env.cells.lookup x = some cl → cl ∈ S) : EnvR env h ι S ρ hp :=
 r.mv (.sub hs) hi (fun _ e => e) fun x cl h1 h2 h3 _ => ⟨hc x cl h1 h2 h3, fun _ e => e⟩
theorem lookup_mapk {α β : Type} (g : Str → α → β) : ∀ (names : List (Str × α)) (x : Str), (names.map fun p => (p.1, g p.1 p.2)).lookup x = (names.lookup x).map (g x)
 | [], _ => rfl
 | (y, k) :: r, x => by
  rw [List.map_cons, List.lookup_cons, List.lookup_cons]
  cases hx : x == y with
  | true =>
   have : x = y := by simpa using hx
   subst this; rfl
  | false => exact lookup_mapk g r x
theorem relabel_lookup (sc : Scope) (env : Env) (x : Str) : (relabel sc env).names.lookup x = sc.names.lookup x ∨ (sc.names.lookup x = some .free ∧ (relabel sc env).names.lookup x = some .cell) := by
 have e : (relabel sc env).names = sc.names.map fun p => (p.1, if (p.2 == .free && env.scope.kind == .function && env.kindOf p.1 == some .cell) = true then NameKind.cell else p.2) := by
  unfold relabel
  simp only
  refine List.map_congr_left fun p _ => ?_
  obtain ⟨y, k⟩ := p
  simp only
  split <;> rfl
 rw [e, lookup_mapk fun y k => if (k == .free && env.scope.kind == .function && env.kindOf y == some .cell) = true then NameKind.cell else k]
 cases q : sc.names.lookup x with
 | none => exact .inl rfl
 | some k =>
  simp only [Option.map_some]
  by_cases hc : (k == NameKind.free && env.scope.kind == .function && env.kindOf x == some .cell) = true
  ·rw [if_pos hc]
   simp only [Bool.and_eq_true, beq_iff_eq] at hc
   rw [hc.1.1]
   exact .inr ⟨rfl, rfl⟩
  ·rw [if_neg hc]
   exact .inl rfl
theorem EnvR.relab {hp : Heap} {outer : Env} (r : EnvR env h ι S ρ hp) (hsc : env.scope = h.sc) : EnvR { env with scope := relabel h.sc outer } h ι S ρ hp := by
 have kof : ∀ x, env.kindOf x = h.sc.names.lookup x := fun x => by unfold Env.kindOf; rw [hsc]
 have kof' : ∀ x, Env.kindOf { env with scope := relabel h.sc outer } x = (relabel h.sc outer).names.lookup x := fun _ => rfl
 have key : ∀ x, Env.kindOf { env with scope := relabel h.sc outer } x = env.kindOf x ∨ (env.kindOf x = some .free ∧ Env.kindOf { env with scope := relabel h.sc outer } x = some .cell) := fun x => by
  rw [kof, kof']; exact relabel_lookup h.sc outer x
 have loc : ∀ x, Env.kindOf { env with scope := relabel h.sc outer } x = some .local → env.kindOf x = some .local := fun x e => by
  rcases key x with q | ⟨_, q⟩
  ·rw [← q]; exact e
  ·rw [q] at e; cases e
 have loc' : ∀ x, env.kindOf x = some .local → Env.kindOf { env with scope := relabel h.sc outer } x = some .local := fun x e => by
  rcases key x with q | ⟨q, _⟩
  ·rw [q]; exact e
  ·rw [q] at e; cases e
 refine ⟨?_, r.glob, r.blt, fun x hx => ?_, fun x hx => ?_, fun x hx => ?_, fun x hx hn e => r.kc x hx hn (loc x e), ?_, fun x hx hne => r.cell x hx fun e => hne (loc' x e), r.inS, r.apart, r.apartL, r.dom⟩
 ·show (relabel h.sc outer).kind = _
  have := r.kind
  rw [hsc] at this
  exact this
 ·rcases key x with q | ⟨_, q⟩
  ·rw [q]; exact r.kl x hx
  ·exact .inr (.inl q)
 ·rcases key x with q | ⟨q, _⟩
  ·rw [q]; exact r.ko x hx
  ·rcases r.ko x hx with z | z
   ·rw [q] at z; cases z
   ·rw [q] at z; cases z.1
 ·rcases key x with q | ⟨q, _⟩
  ·rw [q]; exact r.kg x hx
  ·rw [r.kg x hx] at q; cases q
 ·obtain ⟨m, a, b⟩ := r.ns
  exact ⟨m, a, fun x v h1 h2 => b x v (loc x h1) h2⟩
theorem SrcR.add {N : List Addr} {hp : Heap} {a : Addr} {T : List Addr} {sr : Src} {i : Nat} (q : SrcR ι S hp a T sr i) (t : ∀ x ∈ N, hp.get? x = none) : SrcR ι (N ++ S) hp a T sr i := by
 have nin : ∀ {l : Addr}, hp.get? l ≠ none → l ∉ S → l ∉ N ++ S := fun {l} e n z => by
  rcases List.mem_append.mp z with z | z
  ·exact e (t l z)
  ·exact n z
 cases q with
 | list p z => exact .list p z
 | lstv p q n1 n2 r => exact .lstv p q n1 (nin q.live n2) (r.add N t)
 | tup p q n1 n2 r => exact .tup p q n1 (nin q.live n2) (r.add N t)
 | rng p => exact .rng p
 | str hty p => exact .str hty p
 | enum p q ne z => exact .enum p q ne z
 | enumv p q ne z n1 n2 r => exact .enumv p q ne z n1 (nin z.live n2) (r.add N t)
theorem SrcR.sub {S' : List Addr} {hp : Heap} {a : Addr} {T : List Addr} {sr : Src} {i : Nat} (q : SrcR ι S hp a T sr i) (t : ∀ x ∈ S', x ∈ S) : SrcR ι S' hp a T sr i := by
 cases q with
 | list p z => exact .list p z
 | lstv p q n1 n2 r => exact .lstv p q n1 (fun z => n2 (t _ z)) (r.sub t)
 | tup p q n1 n2 r => exact .tup p q n1 (fun z => n2 (t _ z)) (r.sub t)
 | rng p => exact .rng p
 | str hty p => exact .str hty p
 | enum p q ne z => exact .enum p q ne z
 | enumv p q ne z n1 n2 r => exact .enumv p q ne z n1 (fun z => n2 (t _ z)) (r.sub t)
/-- the closure of a comprehension -/
noncomputable def cloOf (env : Env) : List (Str × NameKind) → List (Str × Addr) → List (Str × Addr)
 | [], acc => acc
 | (x, k) :: r, acc => if k == .free then cloOf env r ((x, (env.cells.lookup x).getD 0) :: acc) else cloOf env r acc
theorem closureFor_eq (sc : Scope) (env : Env) (hf : ∀ p ∈ sc.names, p.2 = .free → (env.cells.lookup p.1).isSome = true) : closureFor sc env = pure (cloOf env sc.names []) := by
 have main : ∀ (names : List (Str × NameKind)) (acc : List (Str × Addr)) (f : Str × NameKind → List (Str × Addr) → Sem (ForInStep (List (Str × Addr)))),
   (∀ p cs, f p cs = if p.2 == .free then (do let a ← cellOf env p.1; pure (.yield ((p.1, a) :: cs))) else pure (.yield cs)) → (∀ p ∈ names, p.2 = .free → (env.cells.lookup p.1).isSome = true) → forIn names acc f = pure (cloOf env names acc) := by
  intro names
  induction names with
  | nil => intro acc f _ _; rw [List.forIn_nil]; rfl
  | cons p r ih =>
   intro acc f hff hh
   obtain ⟨x, k⟩ := p
   rw [List.forIn_cons, hff]
   unfold cloOf
   by_cases hk : k = .free
   ·obtain ⟨a, ha⟩ := Option.isSome_iff_exists.mp (hh (x, k) (.head _) hk)
    have hb : (k == NameKind.free) = true := by simpa using hk
    have hcell : cellOf env x = pure a := by unfold cellOf; rw [ha]
    simp only [hb, if_true, hcell, pure_bind, ha, Option.getD_some]
    exact ih _ f hff fun p hp => hh p (.tail _ hp)
   ·have hb : (k == NameKind.free) = false := by simpa using hk
    simp only [hb, Bool.false_eq_true, if_false, pure_bind]
    exact ih _ f hff fun p hp => hh p (.tail _ hp)
 show (forIn sc.names [] _ >>= fun cs => pure cs) = _
 rw [main sc.names [] _ (fun p cs => by obtain ⟨x, k⟩ := p; cases hkc : k == NameKind.free <;> simp [hkc]) hf]
 rfl
end
end Mine
set_option tactic.hygienic true
set_option tactic.hygienic false
namespace Mine
open PySem.W
section
variable {c : Cx} {n : Nat} {A : Around} {E : Value → Shared → Prop} {s : Shared} {ι : Own} {S : List Addr} {env : Env} {h : Here} {ρ ρ' : Loc} {μ μ' : Mem}
theorem cloOf_eq (env : Env) : ∀ (names : List (Str × NameKind)) (acc : List (Str × Addr)), cloOf env names acc = ((names.filter (·.2 == .free)).map fun p => (p.1, (env.cells.lookup p.1).getD 0)).reverse ++ acc
 | [], _ => rfl
 | (x, k) :: r, acc => by
  unfold cloOf
  by_cases hk : (k == NameKind.free) = true
  ·rw [if_pos hk, cloOf_eq env r, List.filter_cons_of_pos (by exact hk)]; simp
  ·rw [if_neg hk, cloOf_eq env r, List.filter_cons_of_neg (by exact hk)]
noncomputable def capt (sc : Scope) (ρ : Loc) : Loc := sc.names.filterMap fun (x, k) => if k = .free then (ρ.lookup x).map (x, ·) else none
theorem capt_lookup {sc : Scope} {x : Str} {v : V} (e : (capt sc ρ).lookup x = some v) : (x, NameKind.free) ∈ sc.names ∧ ρ.lookup x = some v := by
 have hm := mem_of_lookup e
 unfold capt at hm
 obtain ⟨⟨y, k⟩, hp, hq⟩ := List.mem_filterMap.mp hm
 simp only at hq
 split at hq
 ·rename_i hk
  subst hk
  obtain ⟨w, hw, he⟩ := Option.map_eq_some_iff.mp hq
  cases he
  exact ⟨hp, hw⟩
 ·cases hq
structure CompOk (sc outer : Scope) (gens : List Comprehension) : Prop where
 kind : sc.kind = .function
 nd : (sc.names.map (·.1)).Nodup
 sync : ∀ g ∈ gens, genOk g = true
 noCell : ∀ p ∈ sc.names, p.2 ≠ .cell
 free : ∀ x, (x, NameKind.free) ∈ sc.names → isLoc sc x = true ∧ isLoc outer x = true ∧ outer.names.lookup x ≠ some .local
theorem compOk_iff {sc outer : Scope} {gens : List Comprehension} (e : compOk sc outer gens = true) : CompOk sc outer gens := by
 unfold compOk at e
 simp only [Bool.and_eq_true, beq_iff_eq, decide_eq_true_eq, List.all_eq_true] at e
 obtain ⟨⟨⟨e1, e2⟩, e3⟩, e4⟩ := e
 refine ⟨by simpa using e1, e2, e3, fun p hp => ?_, fun x hx => ?_⟩
 ·have := e4 p hp
  simpa using this.1
 ·have := (e4 (x, .free) hx).2
  simp only [bne_self_eq_false, Bool.false_or, Bool.and_eq_true, Bool.or_eq_true, beq_iff_eq] at this
  refine ⟨this.1.1, this.1.2, fun q => ?_⟩
  rw [q] at this
  rcases this.2 with z | z <;> cases z
theorem clo_V (r : EnvR env h ι S ρ s.heap) {sc : Scope} {gens : List Comprehension} (ok : CompOk sc h.sc gens) :
  closureFor sc env = pure (cloOf env sc.names []) ∧ CloR sc (cloOf env sc.names []) ι S (capt sc ρ) s.heap ∧ ∀ x cl, (cloOf env sc.names []).lookup x = some cl → cl ∈ S := by
 have cell : ∀ x, (x, NameKind.free) ∈ sc.names → ∃ cl v₀, env.cells.lookup x = some cl ∧ s.heap.IsCell cl v₀ ∧ cl ∈ S ∧ ∀ v, ρ.lookup x = some v → ∃ u, v₀ = some u ∧ RelV ι S s.heap u v := fun x hx => by
  obtain ⟨_, h2, h3⟩ := ok.free x hx
  exact r.cell x h2 (r.kc x h2 h3)
 have hm : ∀ x a, (x, a) ∈ cloOf env sc.names [] → (x, NameKind.free) ∈ sc.names ∧ env.cells.lookup x = some a := fun x a hx => by
  rw [cloOf_eq, List.append_nil, List.mem_reverse, List.mem_map] at hx
  obtain ⟨⟨y, k⟩, hp, he⟩ := hx
  obtain ⟨hp1, hp2⟩ := List.mem_filter.mp hp
  have hk : k = .free := by simpa using hp2
  subst hk
  cases he
  obtain ⟨cl, v₀, hc, _⟩ := cell y hp1
  exact ⟨hp1, by rw [hc]; rfl⟩
 have hmem : ∀ x, (x, NameKind.free) ∈ sc.names → ∃ a, (x, a) ∈ cloOf env sc.names [] := fun x hx => by
  refine ⟨(env.cells.lookup x).getD 0, ?_⟩
  rw [cloOf_eq, List.append_nil, List.mem_reverse]
  exact List.mem_map.mpr ⟨(x, .free), List.mem_filter.mpr ⟨hx, rfl⟩, rfl⟩
 refine ⟨closureFor_eq sc env fun p hp hk => ?_, ⟨fun x h1 h2 => ?_, fun x v e => ?_, ?_, fun p hp => ?_⟩, fun x cl e => ?_⟩
 ·obtain ⟨x, k⟩ := p
  cases hk
  obtain ⟨cl, _, hc, _⟩ := cell x hp
  rw [hc]; rfl
 ·have hx := mem_of_lookup h2
  obtain ⟨a, ha⟩ := hmem x hx
  obtain ⟨b, hb⟩ := lookup_some_of_mem ha
  obtain ⟨cl, v₀, g1, g2, g3, g4⟩ := cell x hx
  have := (hm x b (mem_of_lookup hb)).2
  rw [g1] at this
  cases this
  exact ⟨_, v₀, hb, g2, g3, fun v hv => g4 v (capt_lookup hv).2⟩
 ·obtain ⟨h1, h2⟩ := capt_lookup e
  exact ⟨(ok.free x h1).1, lookup_of_mem ok.nd h1⟩
 ·have nd : ((cloOf env sc.names []).map (·.1)).Nodup := by
   rw [cloOf_eq, List.append_nil, List.map_reverse, (List.reverse_perm _).nodup_iff, List.map_map]
   exact ok.nd.sublist ((List.filter_sublist (p := fun p => p.2 == NameKind.free) (l := sc.names)).map _)
  have pw : (cloOf env sc.names []).Pairwise fun x y => x.1 ≠ y.1 := List.pairwise_map.mp nd
  refine List.Pairwise.imp_of_mem (fun {a b} ha hb hne e => hne ?_) pw
  have h1 := (hm a.1 a.2 ha).2
  have h2 := (hm b.1 b.2 hb).2
  rw [← e] at h2
  exact r.apart a.1 b.1 a.2 h1 h2
 ·obtain ⟨h1, h2⟩ := hm p.1 p.2 hp
  refine ⟨?_, ?_⟩
  ·rw [lookup_of_mem ok.nd h1]; simp
  ·obtain ⟨cl, v₀, g1, ⟨o, g2, _⟩, _⟩ := cell p.1 h1
   rw [g1] at h2
   cases h2
   rw [g2]; simp
 ·obtain ⟨h1, h2⟩ := hm x cl (mem_of_lookup e)
  obtain ⟨cl', v₀, g1, _, g3, _⟩ := cell x h1
  rw [g1] at h2
  cases h2
  exact g3
end
end Mine
set_option tactic.hygienic true
set_option tactic.hygienic false
namespace Mine
open PySem.W
theorem Room.deeper {A : Around} {n : Nat} {env : Env} (r : Room A (n + 1)) : Room (A.deeper env) n := ⟨r.handled, by have := r.depth; show A.depth + 1 + n + 2 < _; lia, by have := r.units; show A.units + 3 + 12 * n + 100 < _; lia⟩
theorem Room.u12 {A : Around} {n : Nat} (r : Room A n) : A.units + 12 < cLine := Nat.lt_of_le_of_lt (by lia) r.units
theorem Room.u1' {A : Around} {n : Nat} (r : Room A n) : A.units + 1 < cLine := Nat.lt_of_le_of_lt (by lia) r.units
theorem Room.u8 {A : Around} {n : Nat} (r : Room A n) : A.units + 8 < cLine := Nat.lt_of_le_of_lt (by lia) r.units
theorem W1.mono {α : Type} {x : Option α} {Q R : α → Prop} (h : W1 x Q) (i : ∀ a, Q a → R a) : W1 x R := let ⟨a, e, q⟩ := h; ⟨a, e, i a q⟩
theorem W1.elim {α : Type} {x : Option α} {Q : α → Prop} {P : Prop} (h : W1 x Q) (k : ∀ a, x = some a → Q a → P) : P := let ⟨a, e, q⟩ := h; k a e q
theorem bt {α : Type} {c : Bool} {x y : Option α} {r : Option α} (e : c = true) (k : x = r) : (if c = true then x else y) = r := by rw [if_pos e]; exact k
theorem bi {α : Type} {c : Prop} [Decidable c] {x y : Option α} {r : Option α} (e : c) (k : x = r) : (if c then x else y) = r := by rw [if_pos e]; exact k
theorem iteF {α : Type} {a b : α} : (if false = true then a else b) = b := rfl
section
variable {n : Nat} {h : Here} {ρ : Loc} {μ : Mem} {p p' : Pos} {k : Nat} {Q : V → Mem → Prop}
theorem w_int {i : Int} (q : Q (.int i) μ) : W2 (ev n (.Constant (.int i) k p) h ρ μ) Q := by
 intro c A E s ι S env F G hr R r K
 rw [arm_eval_Constant]
 exact wpAny_mkInt ((K _ _ q).now R (.int _ _) _)
theorem w_str {x : Str} (q : Q (.str x) μ) : W2 (ev n (.Constant (.str x) k p) h ρ μ) Q := by
 intro c A E s ι S env F G hr R r K
 rw [arm_eval_Constant]
 exact wpAny_bind (wpAny_fresh (wpAny_pure ((K _ _ q).now R (.str _ _) _)))
theorem w_bool {b : Bool} (q : Q (.bool b) μ) : W2 (ev n (.Constant (.bool b) k p) h ρ μ) Q := by
 intro c A E s ι S env F G hr R r K
 rw [arm_eval_Constant]
 exact wpAny_pure (K _ _ q _ ι s (Ext.refl ..) R (.bool _))
theorem w_cnone (q : Q .none μ) : W2 (ev n (.Constant .none k p) h ρ μ) Q := by
 intro c A E s ι S env F G hr R r K
 rw [arm_eval_Constant]
 exact wpAny_pure (K _ _ q _ ι s (Ext.refl ..) R .none)
theorem loc_nd {sc : Scope} {x : Str} (h : isLoc sc x = true) : (x == ("__debug__" : Str)) = false := by
 rw [beq_eq_false_iff_ne]
 rintro rfl
 exact absurd h (by unfold isLoc; rw [if_pos (by decide)]; exact nofun)
theorem w_name {x : Str} {v : V} (hl : isLoc h.sc x = true) (e : ρ.lookup x = some v) (q : Q v μ) : W2 (ev n (.Name x p) h ρ μ) Q := by
 intro c A E s ι S env F G hr R r K
 exact wpAny_Name (load_V r hl e fun u ru => K _ _ q u ι s (Ext.refl ..) R ru) (loc_nd hl)
theorem w_binop {l r : Expr} {op : Operator} (H : W2 (ev n l h ρ μ) fun a μ => W2 (ev n r h ρ μ) fun b μ => WS (binop op a b μ) fun v => Q v μ) : W2 (ev n (.BinOp l op r p) h ρ μ) Q := by
 intro c A E s ι S env F G hr R r K
 rw [arm_eval_BinOp]
 refine wpAny_bind (H G hr R r fun a μ₁ H u ι₁ s₁ E₁ R₁ ru => wpAny_bind (wpAny_holding (H G hr R₁ (r.mono R rfl E₁) fun b μ₂ H u' ι₂ s₂ E₂ R₂ ru' => ?_)))
 exact wpAny_bind (wpAny_standAt (PyProof.Rows.wpAny_operate' (H R₂ (ru.mono E₂ nofun) ru' fun v q => (K _ _ q).step (E₁.trans E₂))))
theorem w_ifexp {t b o : Expr} (H : W2 (tst n t h ρ μ) fun c μ => if c = true then W2 (ev n b h ρ μ) Q else W2 (ev n o h ρ μ) Q) : W2 (ev n (.IfExp t b o p) h ρ μ) Q := by
 intro c A E s ι S env F G hr R r K
 rw [arm_eval_IfExp]
 refine wpAny_bind (H G hr R r fun c μ₁ H ι₁ s₁ E₁ R₁ => ?_)
 cases c
 ·exact (show W2 (ev n o h ρ μ₁) Q from H) G hr R₁ (r.mono R rfl E₁) fun x μ' q => (K _ _ q).step E₁
 ·exact (show W2 (ev n b h ρ μ₁) Q from H) G hr R₁ (r.mono R rfl E₁) fun x μ' q => (K _ _ q).step E₁
theorem w_compare {l r : Expr} {op : CmpOp} (hs : behindInMarks op r = false) (H : W2 (ev n l h ρ μ) fun a μ => W2 (ev n r h ρ μ) fun b μ => WS (cmp op a b μ) fun v => Q (.bool v) μ) : W2 (ev n (.Compare l [op] [r] p) h ρ μ) Q := by
 intro c A E s ι S env F G hr R r K
 refine wpAny_Compare1 (H G hr R r fun a μ₁ H u ι₁ s₁ E₁ R₁ ru => H G hr R₁ (r.mono R rfl E₁) fun b μ₂ H u' ι₂ s₂ E₂ R₂ ru' => ?_) hs
 exact H G.sys hr.u8 R₂ (ru.mono E₂ nofun) ru' fun v q => (K _ _ q).step (E₁.trans E₂)
theorem bools_of {ι : Own} {S : List Addr} {s : Shared} {v : Value} {b : Bool} (r : RelV ι S s.heap v (.bool b)) : v = .bool b := by cases r; rfl
theorem truthy_V {M : Model} {A : Around} {E : Value → Shared → Prop} {s : Shared} {b : Bool} {v : Value} {ι : Own} {S : List Addr} {Q : Bool → Shared → Prop} (r : RelV ι S s.heap v (.bool b)) (hq : Q b s) : wpAny M A (truthy v) Q E s := by
 rw [bools_of r]; exact wpAny_truthy_bool hq
theorem w_and {l r : Expr} (H : W2 (ev n l h ρ μ) fun a μ => ∃ b, a = .bool b ∧ if b = true then W2 (ev n r h ρ μ) Q else Q (.bool false) μ) : W2 (ev n (.BoolOp .And [l, r] p) h ρ μ) Q := by
 intro c A E s ι S env F G hr R r K
 rw [arm_eval_BoolOp]
 show wpAny _ _ (eval _ env >>= _) _ _ _
 refine wpAny_bind (H G hr R r fun a μ₁ H u ι₁ s₁ E₁ R₁ ru => wpAny_bind (wpAny_standAt (wpAny_bind (wpAny_holding ?_))))
 obtain ⟨b, rfl, H⟩ := H
 refine truthy_V ru ?_
 cases b
 ·exact wpAny_pure (K _ _ H u ι₁ s₁ E₁ R₁ ru)
 ·exact (show W2 (ev n _ h ρ μ₁) Q from H) G hr R₁ (r.mono R rfl E₁) fun x μ' q => (K _ _ q).step E₁
noncomputable def tupOk (es : List Expr) : Bool := noStar es && decide (es.length < 1000)
theorem tupOk_fits {es : List Expr} (h : tupOk es = true) : es.length ≤ sizeLine := by
 unfold tupOk at h
 rw [Bool.and_eq_true, decide_eq_true_eq] at h
 exact Nat.le_of_lt (Nat.lt_trans h.2 (by rw [sizeLine_val]; decide))
theorem tupOk_star {es : List Expr} (h : tupOk es = true) : noStar es = true := (Bool.and_eq_true_iff.mp h).1
theorem w_tuple {es : List Expr} (ho : tupOk es = true) (H : W2 (evs n es h ρ μ) fun vs μ => Q (.tup vs) μ) : W2 (ev n (.Tuple es k p) h ρ μ) Q := by
 intro c A E s ι S env F G hr R r K
 exact wpAny_Tuple (H (tupOk_star ho) G hr R r fun xs μ' l q vs ι₁ s₁ E₁ R₁ rvs => ⟨by rw [rvs.length, l]; exact tupOk_fits ho, ((K _ _ q).step E₁).newTup R₁ rvs _⟩)
theorem w_list {es : List Expr} (ho : tupOk es = true) (H : W2 (evs n es h ρ μ) fun vs μ => Q (.ref μ.length) (μ ++ [.lst vs])) : W2 (ev n (.List es p) h ρ μ) Q := by
 intro c A E s ι S env F G hr R r K
 exact wpAny_List (H (tupOk_star ho) G hr R r fun xs μ' l q vs ι₁ s₁ E₁ R₁ rvs => ⟨by rw [rvs.length, l]; exact tupOk_fits ho, ((K _ _ q).step E₁).newRef R₁ rvs _⟩)
theorem w_evo0 {Q : Option Int → Mem → Prop} (q : Q .none μ) : W2 (evo n .none h ρ μ) Q := by
 intro c A E s ι S env F G hr R r K
 rw [evalPart_none]
 exact wpAny_pure (K _ _ q .none ι s (Ext.refl ..) R .none)
theorem w_evo1 {e : Expr} {Q : Option Int → Mem → Prop} (H : W2 (ev n e h ρ μ) fun v μ => ∃ i, v = .int i ∧ Q (some i) μ) : W2 (evo n (some e) h ρ μ) Q := by
 intro c A E s ι S env F G hr R r K
 rw [evalPart_some]
 refine H G hr R r fun x μ' H u ι₁ s₁ E₁ R₁ ru => ?_
 obtain ⟨i, rfl, q⟩ := H
 obtain ⟨t, rfl⟩ := relVs_of_int ru
 exact K _ _ q _ ι₁ s₁ E₁ R₁ (.int _ _)
theorem w_nil {Q : List V → Mem → Prop} (q : Q [] μ) : W2 (evs n [] h ρ μ) Q := by
 intro hs c A E s ι S env pos F G hr R r K
 exact wpAny_items_nil (K _ _ rfl q [] ι s (Ext.refl ..) R .nil)
theorem w_cons {e : Expr} {es : List Expr} {Q : List V → Mem → Prop} (H : W2 (ev n e h ρ μ) fun v μ => W2 (evs n es h ρ μ) fun vs μ => Q (v :: vs) μ) : W2 (evs n (e :: es) h ρ μ) Q := by
 intro hs c A E s ι S env pos F G hr R r K
 have hs := noStar_cons hs
 refine items_cons hs.1 (H G hr R r fun x μ₁ H u ι₁ s₁ E₁ R₁ ru => H hs.2 G hr R₁ (r.mono R rfl E₁) fun xs μ₂ l q us ι₂ s₂ E₂ R₂ rus => ?_)
 exact K _ _ (congrArg (· + 1) l) q (u :: us) ι₂ s₂ (E₁.trans E₂) R₂ (.cons (ru.mono E₂ nofun) rus)
/-- tests -/
theorem w_not {e : Expr} {Q : Bool → Mem → Prop} (H : W2 (tst n e h ρ μ) fun b μ => Q (!b) μ) : W2 (tst n (.UnaryOp .Not e p) h ρ μ) Q := by
 intro c A E s ι S env F G hr R r K
 rw [arm_isTrue_UnaryOp]
 exact wpAny_bind (H G hr R r fun b μ' q ι₁ s₁ E₁ R₁ => wpAny_pure (K _ _ q ι₁ s₁ E₁ R₁))
theorem w_boolop {op : BoolOp} {es : List Expr} {Q : Bool → Mem → Prop} (H : W2 (tsts n op es h ρ μ) Q) : W2 (tst n (.BoolOp op es p) h ρ μ) Q := by
 intro c A E s ι S env F G hr R r K
 rw [arm_isTrue_BoolOp]
 exact H G hr R r K
theorem w_tcmp {l r : Expr} {op : CmpOp} {Q : Bool → Mem → Prop} (hs : behindInMarks op r = false) (H : W2 (ev n l h ρ μ) fun a μ => W2 (ev n r h ρ μ) fun b μ => WS (cmp op a b μ) fun v => Q v μ) : W2 (tst n (.Compare l [op] [r] p) h ρ μ) Q := by
 intro c A E s ι S env F G hr R rr K
 rw [arm_isTrue_Compare, PyProof.Rows.markedEach_of_false _ _ _ (show lastMarks [op] [r] = false from hs)]
 refine wpAny_bind (H G hr R rr fun a μ₁ H u ι₁ s₁ E₁ R₁ ru => ?_)
 show wpAny _ _ (holding [u] (eval r env) >>= _) _ _ _
 refine wpAny_bind (wpAny_holding (H G hr R₁ (rr.mono R rfl E₁) fun b μ₂ H u' ι₂ s₂ E₂ R₂ ru' => ?_))
 exact wpAny_bind (wpAny_standAt (wpAny_bind (PyProof.Rows.wpAny_operate' (H G.sys hr.u8 R₂ (ru.mono E₂ nofun) ru' fun v q w ι₃ s₃ E₃ R₃ rw' => wpAny_holding (truthy_V rw' (K _ _ q ι₃ s₃ ((E₁.trans E₂).trans E₃) R₃))))))
theorem w_tcmp2 {l r r2 : Expr} {op op2 : CmpOp} {Q : Bool → Mem → Prop} (hs : behindInMarks op2 r2 = false) (H : W2 (ev n l h ρ μ) fun a μ => W2 (ev n r h ρ μ) fun b μ => WS (cmp op a b μ) fun v => if v = true then W2 (ev n r2 h ρ μ) fun c μ => WS (cmp op2 b c μ) fun v => Q v μ else Q false μ) :
  W2 (tst n (.Compare l [op, op2] [r, r2] p) h ρ μ) Q := by
 intro c A E s ι S env F G hr R rr K
 rw [arm_isTrue_Compare]
 have e2 : markedBehindIn op2 r2 (eval r2 env) = eval r2 env := by unfold markedBehindIn; rw [hs]
 show wpAny _ _ (do let a ← eval l env; testChain p a [op, op2] [eval r env, markedBehindIn op2 r2 (eval r2 env)]) _ _ _
 rw [e2]
 refine wpAny_bind (H G hr R rr fun a μ₁ H u ι₁ s₁ E₁ R₁ ru => ?_)
 show wpAny _ _ (holding [u] (eval r env) >>= _) _ _ _
 refine wpAny_bind (wpAny_holding (H G hr R₁ (rr.mono R rfl E₁) fun b μ₂ H u' ι₂ s₂ E₂ R₂ ru' => ?_))
 refine wpAny_bind (wpAny_standAt (wpAny_bind (wpAny_holding (H G.sys hr.u8 R₂ (ru.mono E₂ nofun) ru' fun v H w ι₃ s₃ E₃ R₃ rw' => wpAny_bind (PyProof.Rows.wpAny_release' (wpAny_bind (wpAny_holding (truthy_V rw' ?_))))))))
 have E123 := (E₁.trans E₂).trans E₃
 cases v
 ·exact wpAny_pure (K _ _ H ι₃ s₃ E123 R₃)
 ·show wpAny _ _ (holding [u'] (eval r2 env) >>= _) _ _ _
  refine wpAny_bind (wpAny_holding ((show W2 (ev n r2 h ρ μ₂) _ from H) G hr R₃ (rr.mono R rfl E123) fun x μ₃ H w2 ι₄ s₄ E₄ R₄ rw2 => ?_))
  exact wpAny_bind (wpAny_standAt (wpAny_bind (PyProof.Rows.wpAny_operate' (H G.sys hr.u8 R₄ (ru'.mono (E₃.trans E₄) nofun) rw2 fun v q w3 ι₅ s₅ E₅ R₅ rw3 => wpAny_holding (truthy_V rw3 (K _ _ q ι₅ s₅ ((E123.trans E₄).trans E₅) R₅))))))
theorem w_tcall {f : Expr} {args : List Expr} {kw : List Keyword} {Q : Bool → Mem → Prop} (H : W2 (ev n (.Call f args kw p) h ρ μ) fun v μ => ∃ b, v = .bool b ∧ Q b μ) : W2 (tst n (.Call f args kw p) h ρ μ) Q := by
 intro c A E s ι S env F G hr R r K
 show wpAny _ _ (do let v ← eval (.Call f args kw p) env; standAt p; holding [v] (truthy v)) _ _ _
 refine wpAny_bind (H G hr R r fun x μ' H u ι₁ s₁ E₁ R₁ ru => wpAny_bind (wpAny_standAt (wpAny_holding ?_)))
 obtain ⟨b, rfl, q⟩ := H
 exact truthy_V ru (K _ _ q ι₁ s₁ E₁ R₁)
theorem w_tsts0 {op : BoolOp} {Q : Bool → Mem → Prop} (q : Q (op == .And) μ) : W2 (tsts n op [] h ρ μ) Q := by
 intro c A E s ι S env F G hr R r K
 rw [arm_allTrue_nil]
 exact wpAny_pure (K _ _ q ι s (Ext.refl ..) R)
theorem w_and1 {e : Expr} {es : List Expr} {Q : Bool → Mem → Prop} (H : W2 (tst n e h ρ μ) fun b μ => if b = true then W2 (tsts n .And es h ρ μ) Q else Q false μ) : W2 (tsts n .And (e :: es) h ρ μ) Q := by
 intro c A E s ι S env F G hr R r K
 rw [arm_allTrue_cons]
 refine wpAny_bind (H G hr R r fun b μ₁ H ι₁ s₁ E₁ R₁ => ?_)
 cases b
 ·exact wpAny_pure (K _ _ H ι₁ s₁ E₁ R₁)
 ·exact (show W2 (tsts n .And es h ρ μ₁) Q from H) G hr R₁ (r.mono R rfl E₁) fun b μ' q ι₂ s₂ E₂ R₂ => K _ _ q ι₂ s₂ (E₁.trans E₂) R₂
theorem w_or1 {e : Expr} {es : List Expr} {Q : Bool → Mem → Prop} (H : W2 (tst n e h ρ μ) fun b μ => if b = true then Q true μ else W2 (tsts n .Or es h ρ μ) Q) : W2 (tsts n .Or (e :: es) h ρ μ) Q := by
 intro c A E s ι S env F G hr R r K
 rw [arm_allTrue_cons]
 refine wpAny_bind (H G hr R r fun b μ₁ H ι₁ s₁ E₁ R₁ => ?_)
 cases b
 ·exact (show W2 (tsts n .Or es h ρ μ₁) Q from H) G hr R₁ (r.mono R rfl E₁) fun b μ' q ι₂ s₂ E₂ R₂ => K _ _ q ι₂ s₂ (E₁.trans E₂) R₂
 ·exact wpAny_pure (K _ _ H ι₁ s₁ E₁ R₁)
theorem ifs_false {M : Model} {A : Around} {E : Value → Shared → Prop} {s : Shared} {env : Env} {es : List Expr} {Q : Bool → Shared → Prop} (hq : Q false s) : wpAny M A (forIn es false fun c r => if r = true then do let ok ← isTrue c env (eval c env); pure (ForInStep.yield ok) else pure (ForInStep.yield r)) Q E s := by
 induction es with
 | nil => rw [List.forIn_nil]; exact wpAny_pure hq
 | cons x es ih =>
  rw [List.forIn_cons]
  exact wpAny_bind (wpAny_pure ih)
theorem w_ifs0 {Q : Bool → Mem → Prop} (q : Q true μ) : W2 (ifs n [] h ρ μ) Q := by
 intro c A E s ι S env F G hr R r K
 unfold ifsTree
 rw [List.forIn_nil]
 exact wpAny_pure (K _ _ q ι s (Ext.refl ..) R)
theorem w_ifs1 {e : Expr} {es : List Expr} {Q : Bool → Mem → Prop} (H : W2 (tst n e h ρ μ) fun b μ => if b = true then W2 (ifs n es h ρ μ) Q else Q false μ) : W2 (ifs n (e :: es) h ρ μ) Q := by
 intro c A E s ι S env F G hr R r K
 unfold ifsTree
 rw [List.forIn_cons, if_pos rfl]
 refine wpAny_bind (wpAny_bind (H G hr R r fun b μ₁ H ι₁ s₁ E₁ R₁ => wpAny_pure ?_))
 cases b
 ·exact ifs_false (K _ _ H ι₁ s₁ E₁ R₁)
 ·exact (show W2 (ifs n es h ρ μ₁) Q from H) G hr R₁ (r.mono R rfl E₁) fun b μ' q ι₂ s₂ E₂ R₂ => K _ _ q ι₂ s₂ (E₁.trans E₂) R₂
end
end Mine
set_option tactic.hygienic true
set_option tactic.hygienic false
namespace Mine
open PySem.W
section
variable {prog : Program} {w : World} {A : Around} {E : Value → Shared → Prop} {s : Shared}
theorem draw_list {it t : Addr} {items : Array Value} (hne : t ≠ it) : ∀ (n i : Nat) (s : Shared) (Q : List Value → Shared → Prop), s.heap.IsListIter it t i → s.heap.IsList t items → i + n ≤ items.size →
  (∀ h', h'.IsListIter it t (i + n) → Heap.SameBut it s.heap h' → Q ((items.toList.drop i).take n) { s with heap := h' }) → wpAny (model prog w) A (draw (.ref it) n) Q E s
 | 0, i, s, Q, hit, _, _, hQ => by
  show wpAny _ _ (pure []) Q E s
  exact wpAny_pure (by simpa using hQ s.heap hit (Heap.SameBut.refl ..))
 | n + 1, i, s, Q, hit, ht, hle, hQ => by
  have hlt : i < items.size := by lia
  show wpAny _ _ (pyNext (.ref it) >>= _) Q E s
  refine wpAny_bind (wpAny_pyNext_list_item hit ht (x := items[i]) (by simp [hlt]) fun h₁ hit₁ hs₁ => ?_)
  refine wpAny_bind (wpAny_holding (draw_list hne n (i + 1) _ _ hit₁ (ht.extBut hs₁.extBut hne) (by lia) fun h₂ hit₂ hs₂ => wpAny_pure ?_))
  have hd : items.toList.drop i = items[i] :: items.toList.drop (i + 1) := by simp [List.drop_eq_getElem_cons, hlt]
  have := hQ h₂ (by rw [show i + (n + 1) = i + 1 + n by lia]; exact hit₂) (hs₁.trans hs₂)
  rw [hd, List.take_succ_cons] at this
  exact this
theorem unpackItems_list {t : Addr} {items : Array Value} {Q : List Value → Shared → Prop} (hh : A.handled = none) (ht : s.heap.IsList t items)
  (hQ : ∀ h', Heap.ExtBut s.heap.objs.size s.heap h' → Q items.toList { s with heap := h' }) : wpAny (model prog w) A (unpackItems (.ref t) items.size none) Q E s := by
 have hlt : t ≠ s.heap.objs.size := by obtain ⟨o, ho, _⟩ := ht; exact Nat.ne_of_lt (Heap.lt_size ho)
 unfold unpackItems
 refine wpAny_bind ?_
 unfold notIterableAtAll
 refine wpAny_bind (wpAny_specialOf ht.typeIs F.slot_list_iter.lookup ?_)
 refine wpAny_pure (wpAny_ite_split (fun h => ff h) fun _ => ?_)
 refine wpAny_bind (wpAny_holding (wpAny_pyIter_list ht ?_))
 refine wpAny_bind (wpAny_holding (draw_list hlt items.size 0 _ _ ⟨_, Heap.get?_push_size _ rfl, rfl, rfl⟩ (ht.push _) (by lia) fun h₁ hit₁ hs₁ => ?_))
 have hall : List.take items.size (List.drop 0 items.toList) = items.toList := by
  rw [List.drop_zero]; exact List.take_of_length_le (by simp)
 rw [hall]
 refine wpAny_ite_split (fun h => absurd h (by simp)) fun _ => ?_
 have ht₁ : h₁.IsList t items := (ht.push _).extBut hs₁.extBut hlt
 refine wpAny_bind (wpAny_holding (wpAny_pyNext_list_end hh hit₁ ht₁ (by simp) fun h₂ he₂ => ?_))
 refine wpAny_ite_split (fun h => ff h) fun _ => wpAny_pure (hQ h₂ fun b o hb e => he₂ b o hb (hs₁.extBut b o hb (Heap.get?_push_of_some _ e)))
end
section
variable {c : Cx} {n : Nat} {A : Around} {E : Value → Shared → Prop} {s : Shared} {ι : Own} {S : List Addr} {env : Env} {h : Here} {ρ ρ' : Loc} {μ μ' : Mem}
/-- the items of what is unpacked -/
theorem unpack_V {v : Value} {x : V} {xs : List V} {Q : List Value → Shared → Prop} (hh : A.handled = none) (R : Rel c ι S μ s) (rv : RelV ι S s.heap v x) (e : itemsOf x μ = some xs)
  (hq : ∀ vs s', (∀ b o, s.heap.get? b = some o → s'.heap.get? b = some o) → Rel c ι S μ s' → RelVs ι S s'.heap vs xs → Q vs s') : wpAny (model c.prog c.w) A (unpackItems v xs.length none) Q E s := by
 have fin : ∀ {vs : List Value} {h' : Heap}, RelVs ι S s.heap vs xs → Heap.ExtBut s.heap.objs.size s.heap h' → Q vs { s with heap := h' } := fun {vs h'} r k => by
  have k' : ∀ b o, s.heap.get? b = some o → h'.get? b = some o := fun b o e => k b o (Nat.ne_of_lt (Heap.lt_size e)) e
  exact hq vs { s with heap := h' } k' (R.keeps k' rfl rfl) (r.mono (X := []) (Ext.of_keeps k') fun _ z => nomatch z)
 have tup : ∀ {a : Addr} {vs : List Value}, PT s.heap a vs → RelVs ι S s.heap vs xs → wpAny (model c.prog c.w) A (unpackItems (.ref a) xs.length none) Q E s := fun {a vs} p r => by
  rw [← r.length, ← List.size_toArray]
  exact wpAny_unpackItems_tuple hh p.isTuple fun h' k => fin r k
 have lst : ∀ {a : Addr} {vs : List Value}, PL s.heap a vs → RelVs ι S s.heap vs xs → wpAny (model c.prog c.w) A (unpackItems (.ref a) xs.length none) Q E s := fun {a vs} p r => by
  rw [← r.length, ← List.size_toArray]
  exact unpackItems_list hh p.isList fun h' k => fin r k
 cases x with
 | tup ys => exact rv.tupI (P := fun v => wpAny _ _ (unpackItems v _ _) _ _ _) fun a us p _ _ r => tup p (Option.some.inj e ▸ r)
 | lst ys => exact rv.seqI (P := fun v => wpAny _ _ (unpackItems v _ _) _ _ _) fun a us p _ _ r => lst p (Option.some.inj e ▸ r)
 | ref k => exact rv.refI (P := fun v => wpAny _ _ (unpackItems v _ _) _ _ _) fun a d hi => R.lstO hi (of_lstAt e) fun us p r => lst p r
 | _ => exact nn e
theorem assignEach_cons (t : Expr) (ts : List Expr) (env : Env) (h : ∀ x p, t ≠ .Starred x p) : assignEach (t :: ts) env = (false, assign t env) :: assignEach ts env := by
 induction t using PySem.Expr.casesOn <;> first | rfl | exact absurd rfl (h _ _)
theorem each_len (env : Env) : ∀ {ts : List Expr}, noStar ts = true → (assignEach ts env).length = ts.length ∧ (assignEach ts env).findIdx? (·.1) = none
 | [], _ => ⟨rfl, rfl⟩
 | t :: ts, e => by
  have e := noStar_cons e
  have i := each_len env e.2
  rw [assignEach_cons t ts env e.1]
  exact ⟨congrArg (· + 1) i.1, by rw [List.findIdx?_cons, i.2]; rfl⟩
end
section
variable {n : Nat} {h : Here} {ρ : Loc} {μ : Mem} {p p' : Pos} {k : Nat} {Q : Loc → Mem → Prop} {v : V}
theorem asg_sem {t : Expr} (H : W2 (asg n t v h ρ μ) Q) : W2 (asgG n t h ρ μ v) Q := by
 induction t using PySem.Expr.casesOn with
 | Name x p =>
  intro c A E s ι S env u F G hr R r ru K
  have H : isOwn h.sc x = true ∧ Q (put ρ x v) μ := H
  rw [arm_assign_Name]
  exact wpAny_bind (wpAny_standAt (wpAny_bindName (store_V r R H.1 ru fun s' k R' r' => K _ _ H.2 ι s' k.ext R' r')))
 | _ => exact H
theorem ev_mono {e : Expr} {Q R : V → Mem → Prop} (H : W2 (ev n e h ρ μ) Q) (i : ∀ x μ, Q x μ → R x μ) : W2 (ev n e h ρ μ) R := by
 intro c A E s ι S env F G hr RR r K
 exact H G hr RR r fun x μ q => K x μ (i x μ q)
theorem tst_mono {e : Expr} {Q R : Bool → Mem → Prop} (H : W2 (tst n e h ρ μ) Q) (i : ∀ x μ, Q x μ → R x μ) : W2 (tst n e h ρ μ) R := by
 intro c A E s ι S env F G hr RR r K
 exact H G hr RR r fun x μ q => K x μ (i x μ q)
theorem ifs_mono {e : List Expr} {Q R : Bool → Mem → Prop} (H : W2 (ifs n e h ρ μ) Q) (i : ∀ x μ, Q x μ → R x μ) : W2 (ifs n e h ρ μ) R := by
 intro c A E s ι S env F G hr RR r K
 exact H G hr RR r fun x μ q => K x μ (i x μ q)
theorem src_mono {e : Expr} {Q R : Src → Mem → Prop} (H : W2 (src n e h ρ μ) Q) (i : ∀ x μ, Q x μ → R x μ) : W2 (src n e h ρ μ) R := by
 intro c A E s ι S env F G hr RR r K
 exact H G hr RR r fun x μ q => K x μ (i x μ q)
theorem exs_mono {ss : List Stmt} {Q R : Fl → Loc → Mem → Prop} (H : W3 (exs n ss h ρ μ) Q) (i : ∀ x ρ μ, Q x ρ μ → R x ρ μ) : W3 (exs n ss h ρ μ) R := by
 intro c A E s ι S env F G hr RR r K
 exact H G hr RR r fun x ρ μ q => K x ρ μ (i x ρ μ q)
theorem ex_mono {s : Stmt} {Q R : Fl → Loc → Mem → Prop} (H : W3 (ex n s h ρ μ) Q) (i : ∀ x ρ μ, Q x ρ μ → R x ρ μ) : W3 (ex n s h ρ μ) R := by
 intro c A E s ι S env F G hr RR r K
 exact H G hr RR r fun x ρ μ q => K x ρ μ (i x ρ μ q)
theorem asg_mono {t : Expr} {R : Loc → Mem → Prop} (H : W2 (asg n t v h ρ μ) Q) (i : ∀ ρ μ, Q ρ μ → R ρ μ) : W2 (asg n t v h ρ μ) R := by
 unfold W2 asg at H ⊢
 revert H
 cases nameOf t with
 | some x => exact fun H => ⟨H.1, i _ _ H.2⟩
 | none =>
  intro H c A E s ι S env u F G hr RR r ru K
  exact H G hr RR r ru fun ρ μ q => K ρ μ (i ρ μ q)
theorem asgs_sem : ∀ {ts : List Expr} {vs : List V} {ρ : Loc} {μ : Mem} {c : Cx} {A : Around} {E : Value → Shared → Prop} {s : Shared} {ι : Own} {S : List Addr} {env : Env} {us : List Value} {F : Unit → Shared → Prop}, W2 (asgs n ts vs h ρ μ) Q → noStar ts = true → Good c → Room A n → Rel c ι S μ s → EnvR env h ι S ρ s.heap → RelVs ι S s.heap us vs →
  (∀ ρ' μ', Q ρ' μ' → PostU c ι S s.heap μ' env h ρ' F) → wpAny (model c.prog c.w) A (assignInOrder ((assignEach ts env).map (·.2)) us) F E s := by
 intro ts
 induction ts with
 | nil =>
  intro vs ρ μ c A E s ι S env us F H _ G hr R r ru K
  cases ru with
  | nil => exact wpAny_pure (K _ _ H ι s (Ext.refl ..) R r)
  | cons => exact False.elim H
 | cons t ts ih =>
  intro vs ρ μ c A E s ι S env us F H e G hr R r ru K
  have e := noStar_cons e
  cases ru with
  | nil => exact False.elim H
  | cons ra rr =>
   rw [assignEach_cons t ts env e.1]
   exact wpAny_bind (wpAny_holding (asg_sem H G hr R r ra fun ρ₁ μ₁ H ι₁ s₁ E₁ R₁ r₁ => ih H e.2 G hr R₁ r₁ (rr.mono E₁ r.inS) fun ρ₂ μ₂ q ι₂ s₂ E₂ R₂ r₂ => K _ _ q ι₂ s₂ (E₁.trans E₂) R₂ r₂))
/-- stores -/
theorem w_sname {x : Str} (ho : isOwn h.sc x = true) (q : Q (put ρ x v) μ) : W2 (asg n (.Name x p) v h ρ μ) Q := ⟨ho, q⟩
theorem w_stuple {ts : List Expr} (ho : noStar ts = true) (H : W1 (itemsOf v μ) fun vs => W2 (asgsL n ts vs h ρ μ) Q) : W2 (asg n (.Tuple ts k p) v h ρ μ) Q := by
 intro c A E s ι S env u F G hr R r ru K
 obtain ⟨vs, e, l, H⟩ := H
 rw [arm_assign_Tuple]
 refine wpAny_bind (wpAny_standAt ?_)
 unfold unpack
 have i := each_len env ho
 rw [i.1, i.2, l]
 exact wpAny_bind (wpAny_holding (unpack_V hr.handled R ru e fun us s₁ k₁ R₁ rus => asgs_sem H ho G hr R₁ (r.keeps k₁) rus fun ρ₂ μ₂ q ι₂ s₂ E₂ R₂ r₂ => K _ _ q ι₂ s₂ ((Ext.of_keeps k₁).trans E₂) R₂ r₂))
theorem w_sl {ts : List Expr} {vs : List V} (e : ts.length = vs.length) (H : W2 (asgs n ts vs h ρ μ) Q) : W2 (asgsL n ts vs h ρ μ) Q := ⟨e, H⟩
theorem w_snil (q : Q ρ μ) : W2 (asgs n [] [] h ρ μ) Q := q
theorem w_scons {t : Expr} {ts : List Expr} {vs : List V} (H : W2 (asg n t v h ρ μ) fun ρ μ => W2 (asgs n ts vs h ρ μ) Q) : W2 (asgs n (t :: ts) (v :: vs) h ρ μ) Q := H
/-- a store to an attribute of w -/
noncomputable def stA (w : V) (a : Str) (v : V) (μ : Mem) (q : Mem → Prop) : Prop := ∃ k C fs, w = .ref k ∧ μ[k]? = some (.inst C fs) ∧ (attrTable.contains a && decide (fs.length < 100)) = true ∧ q (μ.set k (.inst C (put fs a v)))
theorem w_sattrV {a C : Str} {fs : List (Str × V)} {Q : Mem → Prop} (hm : μ[k]? = some (.inst C fs)) (ha : (attrTable.contains a && decide (fs.length < 100)) = true) (q : Q (μ.set k (.inst C (put fs a v)))) : WS (stA (.ref k) a v μ) Q := ⟨k, C, fs, rfl, hm, ha, q⟩
theorem w_sattr {o : Expr} {a : Str} (H : W2 (ev n o h ρ μ) fun w μ => WS (stA w a v μ) fun μ => Q ρ μ) : W2 (asg n (.Attribute o a p) v h ρ μ) Q := by
 intro c A E s ι S env u F G hr R r ru K
 rw [arm_assign_Attribute]
 refine wpAny_bind (wpAny_holding (H G hr R r fun w μ₁ H u' ι₁ s₁ E₁ R₁ rw' => wpAny_bind (wpAny_standAt (wpAny_bind (wpAny_holding ?_)))))
 obtain ⟨k, C, fs, rfl, hm, hc, q⟩ := H
 rw [Bool.and_eq_true, decide_eq_true_eq] at hc
 exact rw'.refI (P := fun z => wpAny _ _ (setAttr z a u) _ _ _) fun a d hn => setAttr_V G.toGood0 R₁ hn hm hc.1 hc.2 (ru.mono E₁ nofun) fun s₂ E₂ R₂ => PyProof.Rows.wpAny_release' (K _ _ q ι₁ s₂ ((E₁.trans E₂).weaken nofun) R₂ (r.mono R rfl (E₁.trans E₂)))
/-- a store to an item of w -/
noncomputable def stI (w x v : V) (μ : Mem) (q : Mem → Prop) : Prop := (∃ k i vs, w = .ref k ∧ x = .int i ∧ μ[k]? = some (.lst vs) ∧ (0 ≤ i ∧ i < vs.length ∧ vs.length < limit) ∧ q (μ.set k (.lst (vs.set i.toNat v)))) ∨
 ∃ k es, w = .ref k ∧ μ[k]? = some (.dict es) ∧ (okKey es x && decide (es.length < limit)) = true ∧ q (μ.set k (.dict (dput es x v)))
theorem w_sitemL {i : Int} {vs : List V} {Q : Mem → Prop} (hm : μ[k]? = some (.lst vs)) (hi : 0 ≤ i ∧ i < vs.length ∧ vs.length < limit) (q : Q (μ.set k (.lst (vs.set i.toNat v)))) : WS (stI (.ref k) (.int i) v μ) Q := .inl ⟨k, i, vs, rfl, rfl, hm, hi, q⟩
theorem w_sitemD {x : V} {es : List (V × V)} {Q : Mem → Prop} (hm : μ[k]? = some (.dict es)) (hi : (okKey es x && decide (es.length < limit)) = true) (q : Q (μ.set k (.dict (dput es x v)))) : WS (stI (.ref k) x v μ) Q := .inr ⟨k, es, rfl, hm, hi, q⟩
theorem w_sitem {o i : Expr} (H : W2 (ev n o h ρ μ) fun w μ => W2 (ev n i h ρ μ) fun x μ => WS (stI w x v μ) fun μ => Q ρ μ) : W2 (asg n (.Subscript o i p) v h ρ μ) Q := by
 intro c A E s ι S env u F G hr R r ru K
 rw [arm_assign_Subscript]
 refine wpAny_bind (wpAny_holding (H G hr R r fun w μ₁ H u₁ ι₁ s₁ E₁ R₁ ru₁ => wpAny_bind (wpAny_holding (H G hr R₁ (r.mono R rfl E₁) fun x μ₂ H u₂ ι₂ s₂ E₂ R₂ ru₂ => wpAny_bind (wpAny_standAt (wpAny_bind (wpAny_holding ?_)))))))
 have E12 := E₁.trans E₂
 have fin : ∀ {μ₃ s₃}, Q ρ μ₃ → Ext [] ι₂ s₂.heap ι₂ s₃.heap → Rel c ι₂ S μ₃ s₃ → F () s₃ := fun q E₃ R₃ => K _ _ q ι₂ _ ((E12.trans E₃).weaken nofun) R₃ (r.mono R rfl (E12.trans E₃))
 have rk := ru₁.mono E₂ nofun
 have rv := ru.mono E12 nofun
 rcases H with ⟨k, i, vs, rfl, rfl, hm, hc, q⟩ | ⟨k, es, rfl, hm, hc, q⟩
 ·obtain ⟨t, rfl⟩ := relVs_of_int ru₂
  exact R₂.lstI (P := fun z => wpAny _ _ (setItem z _ _) _ _ _) rk hm fun a hn => setItem_lst _ R₂ hn hm hc.1 hc.2.1 hc.2.2 rv fun s₃ E₃ R₃ => PyProof.Rows.wpAny_release' (fin q E₃ R₃)
 ·rw [Bool.and_eq_true, decide_eq_true_eq] at hc
  exact R₂.dictI (P := fun z => wpAny _ _ (setItem z _ _) _ _ _) rk hm fun a hn => setItem_dict _ hr.u1' R₂ hn hm ru₂ rv hc.1 hc.2 fun s₃ E₃ R₃ => PyProof.Rows.wpAny_release' (fin q E₃ R₃)
variable {R : Fl → Loc → Mem → Prop}
theorem w_x0 (q : R .next ρ μ) : W3 (exs n [] h ρ μ) R := by
 intro c A E s ι S env F G hr RR r K
 exact wpAny_execs_nil (K _ _ _ q .next ι s (Ext.refl ..) RR r .next)
noncomputable def contS (n : Nat) (ss : List Stmt) (h : Here) (R : Fl → Loc → Mem → Prop) (fl : Fl) (ρ : Loc) (μ : Mem) : Prop := match fl with
 | .next => W3 (exs n ss h ρ μ) R
 | .ret v => R (.ret v) ρ μ
theorem w_x1 {s : Stmt} {ss : List Stmt} (H : W3 (ex n s h ρ μ) (contS n ss h R)) : W3 (exs n (s :: ss) h ρ μ) R := by
 intro c A E s ι S env F G hr RR r K
 rw [arm_execs_cons]
 refine wpAny_bind (H G hr RR r fun fl ρ₁ μ₁ H f ι₁ s₁ E₁ R₁ r₁ rf => ?_)
 cases rf with
 | next => exact (show W3 (exs n ss h ρ₁ μ₁) R from H) G hr R₁ r₁ fun fl ρ₂ μ₂ q f ι₂ s₂ E₂ R₂ r₂ rf => K _ _ _ q f ι₂ s₂ (E₁.trans E₂) R₂ r₂ rf
 | ret rv => exact wpAny_pure (K _ _ _ H _ ι₁ s₁ E₁ R₁ r₁ (.ret rv))
/-- a while: the state is told by I, which counts down -/
theorem w_whl {t : Expr} {b : List Stmt} (I : Nat → Loc → Mem → Prop) (step : ∀ j ρ μ, I j ρ μ → W2 (tst n t h ρ μ) fun c μ => if c = true then W3 (exs n b h ρ μ) fun fl ρ μ => (∃ j', j' < j ∧ fl = .next ∧ I j' ρ μ) ∨ ∃ v, fl = .ret v ∧ R (.ret v) ρ μ else R .next ρ μ) :
  ∀ (j : Nat) (ρ : Loc) (μ : Mem), I j ρ μ → W3 (whl n t b h ρ μ) R := by
 intro j
 induction j using Nat.strongRecOn with
 | ind j ih =>
  intro ρ μ hi c A s ι S env Rs G hr RR r K
  refine while_step (step j ρ μ hi G hr RR r fun cc μ₁ H ι₁ s₁ E₁ R₁ => ?_)
  have r₁ := r.mono RR rfl E₁
  have E₁' := E₁.weaken (Y := ownA env h) nofun
  cases cc
  ·exact wpAny_execs_nil (K _ _ _ H .next ι₁ s₁ E₁' R₁ r₁ .next)
  ·rw [if_pos rfl]
   refine (show W3 (exs n b h ρ μ₁) _ from H) G hr R₁ r₁ fun fl ρ₂ μ₂ H f ι₂ s₂ E₂ R₂ r₂ rf => ?_
   rcases H with ⟨j', hj, rfl, q⟩ | ⟨v, rfl, q⟩
   ·cases rf
    exact ih j' hj ρ₂ μ₂ q G hr R₂ r₂ fun fl ρ₃ μ₃ q f ι₃ s₃ E₃ R₃ r₃ rf => K _ _ _ q f ι₃ s₃ ((E₁'.trans E₂).trans E₃) R₃ r₃ rf
   ·cases rf with
    | ret rv => exact K _ _ _ q _ ι₂ s₂ (E₁'.trans E₂) R₂ r₂ (.ret rv)
end
section
variable {c : Cx} {n : Nat} {s : Shared} {ι : Own} {S T : List Addr} {env : Env} {h : Here} {ρ : Loc} {μ : Mem}
theorem EnvR.sub0 {ι₀ : Own} {ρ₀ : Loc} {h₀ hp : Heap} (r₀ : EnvR env h ι₀ S ρ₀ h₀) (ap : Apart env h S T) (r : EnvR env h ι (T ++ S) ρ hp) : EnvR env h ι S ρ hp :=
 EnvR.but r₀ r (fun _ _ _ e => e) ap.S
noncomputable def Src.wrap (s : Src) (i : Nat) (v : V) : V := Src.casesOn (motive := fun _ => V) s (fun _ => v) (fun _ => v) fun _ => .tup [.int i, v]
variable {R : Fl → Loc → Mem → Prop}
theorem fr_end {t : Expr} {b : List Stmt} {sr : Src} {i : Nat} (h1 : sr.at i μ = some none) (q : R .next ρ μ) : W3 (fr n t b sr i h ρ μ) R := by
 intro c A s ι S T env a Rs G hr RR r r₀ qs ap K
 refine for_step (end_V hr.handled RR qs h1 fun s₂ k ho hg => wpAny_execs_nil ?_)
 exact K _ _ _ q .next ι s₂ (ExtT.gone k) (RR.but k ap.S ho hg) (EnvR.but r₀ r k ap.S) .next
theorem fr_step {t : Expr} {b : List Stmt} {sr : Src} {i : Nat} {x : V} (h1 : sr.at i μ = some (some x)) (hok : okT sr t = true) (H : W2 (asg n t x h ρ μ) fun ρ μ => W3 (exs n b h ρ μ) fun fl ρ μ => (fl = .next ∧ W3 (fr n t b sr (i + 1) h ρ μ) R) ∨ ∃ v, fl = .ret v ∧ R (.ret v) ρ μ) : W3 (fr n t b sr i h ρ μ) R := by
 intro c A s ι S T env a Rs G hr RR r r₀ q ap K
 have hT : ∀ y ∈ T, y ∈ T ++ S := fun y hy => List.mem_append_left _ hy
 have hTa : ∀ y ∈ T, s.heap.get? y ≠ none := fun y hy => RR.bound y (hT y hy)
 refine for_step (next_V RR q hT h1 hok fun v s₁ k₁ ho hg q₁ rv => ?_)
 have R₁ : Rel c ι (T ++ S) μ s₁ := RR.private (fun b o n z => k₁.keep b o (fun w => n (hT b w)) z) k₁.live ho hg
 have r₁ := r.priv k₁ hT ap.loc
 refine asg_sem H G hr R₁ r₁ rv fun ρ₂ μ₂ H ι₂ s₂ E₂ R₂ r₂ => H G hr R₂ r₂ fun fl ρ₃ μ₃ H f ι₃ s₃ E₃ R₃ r₃ rf => ?_
 have E23 := E₂.trans E₃
 have hno : ∀ y ∈ T, y ∉ owned ι₃ := fun y hy => R₃.disj y (hT y hy)
 have X3 : ExtT (ownA env h) T ι s.heap ι₃ s₃.heap := (ExtT.kept k₁).trans (ExtT.of E23) hno hTa
 rcases H with ⟨rfl, H⟩ | ⟨v, rfl, H⟩
 ·cases rf
  have q₃ := q₁.mono E23 (fun x hx => r.inS x hx) fun y hy => ⟨ap.own y hy, R₁.disj y (hT y hy)⟩
  exact H G hr R₃ r₃ (EnvR.sub0 r₀ ap r₃) q₃ ap fun fl ρ₄ μ₄ q f ι₄ s₄ X₄ R₄ r₄ rf => K _ _ _ q f ι₄ s₄ (X3.trans X₄ (fun y hy z => (X₄.fresh y z).elim (hno y hy) (R₃.bound y (hT y hy))) hTa) R₄ r₄ rf
 ·cases rf with
  | ret rv => exact K _ _ _ H _ ι₃ s₃ X3 (R₃.subS fun x hx => List.mem_append_right _ hx) (EnvR.sub0 r₀ ap r₃) (RelFl.ret (rv.sub fun x hx => List.mem_append_right _ hx))
/-- a for over fixed items -/
theorem w_fr {t : Expr} {b : List Stmt} {s : Src} (xs : List V) (hk : okT s t = true) (I : Nat → Loc → Mem → Prop) (hat : ∀ i ρ μ, i ≤ xs.length → I i ρ μ → s.at i μ = some (xs[i]?.map fun v => s.wrap i v))
  (step : ∀ i v ρ μ, xs[i]? = some v → I i ρ μ → W2 (asg n t (s.wrap i v) h ρ μ) fun ρ μ => W3 (exs n b h ρ μ) fun fl ρ μ => (fl = .next ∧ I (i + 1) ρ μ) ∨ ∃ v, fl = .ret v ∧ R (.ret v) ρ μ)
  (fin : ∀ ρ μ, I xs.length ρ μ → R .next ρ μ) (hI : I 0 ρ μ) : W3 (fr n t b s 0 h ρ μ) R := by
 suffices H : ∀ (j i : Nat) (ρ : Loc) (μ : Mem), i + j = xs.length → I i ρ μ → W3 (fr n t b s i h ρ μ) R from H xs.length 0 ρ μ (Nat.zero_add _) hI
 intro j
 induction j with
 | zero =>
  intro i ρ μ hj hi
  cases hj
  exact fr_end ((hat _ ρ μ (Nat.le_refl _) hi).trans (by rw [List.getElem?_eq_none (Nat.le_refl _)]; rfl)) (fin ρ μ hi)
 | succ j ih =>
  intro i ρ μ hj hi
  have hl : i < xs.length := by lia
  have hv := List.getElem?_eq_getElem hl
  refine fr_step ((hat i ρ μ (Nat.le_of_lt hl) hi).trans (by rw [hv]; rfl)) hk (asg_mono (step i _ ρ μ hv hi) fun ρ μ H => exs_mono H fun fl ρ μ H => ?_)
  exact H.imp (fun q => ⟨q.1, ih (i + 1) ρ μ (by lia) q.2⟩) id
end
end Mine
set_option tactic.hygienic true
set_option tactic.hygienic false
namespace Mine
open PySem.W
theorem noSet {e : Expr} (h : isSetE e = false) (env : Env) (x : Value) : foldedSetIterable e env x = pure x := by
 induction e using PySem.Expr.casesOn <;> first | rfl | exact ff h.symm
theorem genOk_iff {g : Comprehension} (e : genOk g = true) : g.is_async = 0 ∧ ∀ (env : Env) (x : Value), foldedSetIterable g.iter env x = pure x := by
 unfold genOk at e
 rw [Bool.and_eq_true, beq_iff_eq, Bool.not_eq_true'] at e
 exact ⟨e.1, fun env x => noSet e.2 env x⟩
section
variable {c : Cx} {n : Nat} {A : Around} {E : Value → Shared → Prop} {s : Shared} {ι : Own} {S T : List Addr} {env : Env} {h : Here} {ρ ρ' : Loc} {μ μ' : Mem}
theorem Apart.fresh (r : EnvR env h ι S ρ s.heap) (R : Rel c ι S μ s) (fr : ∀ y ∈ T, s.heap.get? y = none) : Apart env h S T where
 S := fun a ha hb => R.bound a ha (fr a hb)
 own := fun a ha hb => R.bound a (r.inS a hb) (fr a ha)
 loc := fun a ha => ⟨fun e => R.bound _ (r.inS _ (.head _)) (e ▸ fr a ha), fun y cl h1 h2 h3 e => by
  obtain ⟨cl', v₀, g1, _, g3, _⟩ := r.cell y h1 h2
  rw [h3] at g1
  cases g1
  exact R.bound _ g3 (e ▸ fr a ha)⟩
theorem EnvR.monoAdd {ι' : Own} {hp' : Heap} (r : EnvR env h ι S ρ s.heap) (R : Rel c ι S μ s) (E : Ext [] ι s.heap ι' hp') (fr : ∀ y ∈ T, s.heap.get? y = none) : EnvR env h ι' (T ++ S) ρ hp' := by
 have keep : ∀ b ∈ S, ∀ o, s.heap.get? b = some o → hp'.get? b = some o := fun b hb o q => E.keep b o (R.disj b hb) nofun q
 have r' := r.mv (.add T fr) (fun a ha => List.mem_append_right _ (r.inS a ha)) (fun _ e => e) fun x cl _ _ _ hS => ⟨List.mem_append_right _ hS, fun _ e => e⟩
 exact r'.mv (.mono E nofun) r'.inS (keep _ (r.inS _ (.head _))) fun x cl h1 h2 h3 hS => ⟨hS, (r.cell x h1 h2).elim fun cl₀ z => z.elim fun _ z => by
  cases z.1.symm.trans h3
  exact keep cl z.2.2.1⟩
theorem append_priv {D : Addr} {items : List Value} {v : Value} {Q : Value → Shared → Prop} (p : PL s.heap D items) (hz : items.length < limit)
  (hq : ∀ s', Kept [D] s.heap s'.heap → s'.os = s.os → s'.gens = s.gens → PL s'.heap D (items ++ [v]) → Q .none s') : wpAny (model c.prog c.w) A (call (.builtin "list.append") [.ref D, v]) Q E s := by
 rw [limit_eq] at hz
 have hT := p.typeIs
 obtain ⟨k, e⟩ := id p
 have hget := Heap.get?_update_self (Obj.mapSeq fun x_1 => x_1.push v) e rfl
 refine call_meets slot_list_append hT entry_list_append (args_list_append _ _) (list_append D items.toArray k v (by simp [sizeLine_val]; exact Nat.le_trans (Nat.le_of_lt (by assumption)) (by decide))) ⟨e, hq { s with heap := s.heap.update D (Obj.mapSeq fun x_1 => x_1.push v) } (kept_one (Heap.SameBut.update ..) hget) rfl rfl ?_⟩
 refine ⟨if (items.toArray.push v).size == items.toArray.size then k else k + 1, hget.trans ?_⟩
 simp only [Obj.mapSeq, List.push_toArray]
theorem drop_get {α : Type} {l : List α} {d : Nat} {rest : List α} (e : l.drop d = rest) : l[d]? = rest.head? ∧ l.drop (d + 1) = rest.drop 1 := by
 subst e
 refine ⟨?_, ?_⟩
 ·rw [List.head?_drop]
 ·rw [List.drop_drop]
variable {elt : Expr} {g : Comprehension} {rest : List Comprehension} {sr : Src} {i : Nat} {acc : List V} {q : List V → Loc → Mem → Prop}
theorem cmp_end (h1 : sr.at i μ = some none) (H : q acc ρ μ) : W3 (cmpL n elt g rest sr i h ρ acc μ) q := by
 intro c A s ι S T env gens scope pos d a D items Rs G hg hrest hok hr R r r₀ qs ap aD hD p ri K
 have hgm := List.mem_of_getElem? hg
 refine comp_step hg (genOk_iff (hok g hgm)).1 (fun g' hg' => ⟨(genOk_iff (hok g' (List.mem_of_getElem? hg'))).1, (genOk_iff (hok g' (List.mem_of_getElem? hg'))).2 env⟩) ?_
 refine end_V hr.handled R qs h1 fun s₂ k ho hg => ?_
 exact K _ _ _ H ι s₂ items (ExtT.gone k) (R.but k ap.S ho hg) (EnvR.but r₀ r k ap.S) (p.at fun o e => k D o (ap.S D hD) e) (ri.but k)
theorem cmp_step {x : V} (h1 : sr.at i μ = some (some x)) (hokT : okT sr g.target = true)
  (H : W2 (asg n g.target x h ρ μ) fun ρ μ => W2 (ifs n g.ifs h ρ μ) fun ok μ => if ok = true then (match rest with
   | [] => W2 (ev n elt h ρ μ) fun w μ => acc.length < limit ∧ W3 (cmpL n elt g rest sr (i + 1) h ρ (acc ++ [w]) μ) q
   | g' :: rest' => W2 (src n g'.iter h ρ μ) fun sr' μ => W3 (cmpL n elt g' rest' sr' 0 h ρ acc μ) fun acc ρ μ => W3 (cmpL n elt g rest sr (i + 1) h ρ acc μ) q) else W3 (cmpL n elt g rest sr (i + 1) h ρ acc μ) q) :
  W3 (cmpL n elt g rest sr i h ρ acc μ) q := by
 intro c A s ι S T env gens scope pos d a D items Rs G hg hrest hok hr R r r₀ qs ap aD hD p ri K
 have hT : ∀ y ∈ T, y ∈ T ++ S := fun y hy => List.mem_append_left _ hy
 have hTa : ∀ y ∈ T, s.heap.get? y ≠ none := fun y hy => R.bound y (hT y hy)
 have hDT : D ∉ T := ap.S D hD
 have hDo : D ∉ ownA env h := aD.own D (.head _)
 have hDS : D ∈ T ++ S := List.mem_append_right _ hD
 have hnx := drop_get hrest
 have hgm := List.mem_of_getElem? hg
 refine comp_step hg (genOk_iff (hok g hgm)).1 (fun g' hg' => ⟨(genOk_iff (hok g' (List.mem_of_getElem? hg'))).1, (genOk_iff (hok g' (List.mem_of_getElem? hg'))).2 env⟩) ?_
 refine next_V R qs hT h1 hokT fun v s₁ k₁ ho hg₁ q₁ rv => ?_
 have R₁ : Rel c ι (T ++ S) μ s₁ := R.private (fun b o n z => k₁.keep b o (fun w => n (hT b w)) z) k₁.live ho hg₁
 refine asg_sem H G hr R₁ (r.priv k₁ hT ap.loc) rv fun ρ₁ μ₁ H ι₂ s₂ E₂ R₂ r₂ => H G hr R₂ r₂ fun ok μ₂ H ι₃ s₃ E₃ R₃ => ?_
 have r₃ := r₂.mono R₂ rfl E₃
 have p₃ : PL s₃.heap D items := p.at fun o e => E₃.keep D o (R₂.disj D hDS) nofun (E₂.keep D o (R₁.disj D hDS) hDo (k₁.keep D o hDT e))
 have ri₃ := ((ri.mono (k₁.ext (ι := ι)) hT).mono E₂ (r.priv k₁ hT ap.loc).inS).mono E₃ nofun
 have E23 : Ext (ownA env h) ι s₁.heap ι₃ s₃.heap := E₂.trans (E₃.weaken nofun)
 have q₃ := q₁.mono E23 (fun x hx => r.inS x hx) fun y hy => ⟨ap.own y hy, R₁.disj y (hT y hy)⟩
 have X3 : ExtT (D :: ownA env h) T ι s.heap ι₃ s₃.heap := (ExtT.kept k₁).trans (ExtT.of (E23.weaken fun x hx => .tail _ hx)) (fun y hy => R₃.disj y (hT y hy)) hTa
 have again : ∀ {ι₄ : Own} {s₄ : Shared} {items₄ : List Value} {acc₄ : List V} {ρ₄ : Loc} {μ₄ : Mem}, W3 (cmpL n elt g rest sr (i + 1) h ρ₄ acc₄ μ₄) q → Ext (D :: ownA env h) ι₃ s₃.heap ι₄ s₄.heap → Rel c ι₄ (T ++ S) μ₄ s₄ → EnvR env h ι₄ (T ++ S) ρ₄ s₄.heap →
   PL s₄.heap D items₄ → RelVs ι₄ (T ++ S) s₄.heap items₄ acc₄ → codeAny (model c.prog c.w) A (.compLoop (.ListComp elt gens scope pos) d (.ref a) (.ref D) env) Rs s₄ := by
  intro ι₄ s₄ items₄ acc₄ ρ₄ μ₄ H E₄ R₄ r₄ p₄ ri₄
  have X₄ := X3.trans (ExtT.of E₄) (fun y hy => R₄.disj y (hT y hy)) hTa
  have q₄ := q₃.mono E₄ (fun x hx => (List.mem_cons.mp hx).elim (fun e => e ▸ hDS) (r.inS x)) fun y hy => ⟨fun z => (List.mem_cons.mp z).elim (fun e => hDT (e ▸ hy)) (ap.own y hy), R₃.disj y (hT y hy)⟩
  exact H G hg hrest hok hr R₄ r₄ (EnvR.sub0 r₀ ap r₄) q₄ ap aD hD p₄ ri₄ fun acc₅ ρ₅ μ₅ z ι₅ s₅ items₅ X₅ R₅ r₅ p₅ ri₅ =>
   K _ _ _ z ι₅ s₅ items₅ (X₄.trans X₅ (fun y hy z => (X₅.fresh y z).elim (R₄.disj y (hT y hy)) (R₄.bound y (hT y hy))) hTa) R₅ r₅ p₅ ri₅
 cases ok
 ·exact again H (Ext.refl ..) R₃ r₃ p₃ ri₃
 ·rw [if_pos rfl]
  cases rest with
  | nil =>
   rw [hnx.1]
   refine (show W2 (ev n elt h ρ₁ μ₂) _ from H) G hr R₃ r₃ fun w μ₄ H u ι₄ s₄ E₄ R₄ ru => ?_
   refine append_priv (p₃.at fun o e => E₄.keep D o (R₃.disj D hDS) nofun e) (by rw [ri₃.length]; exact H.1) fun s₅ k₅ ho₅ hg₅ p₅ => ?_
   have hD1 : ∀ y ∈ [D], y ∈ T ++ S := fun y hy => List.mem_singleton.mp hy ▸ hDS
   have E5 := k₅.ext (ι := ι₄)
   exact again H.2 ((E₄.weaken nofun).trans (E5.weaken fun x hx => List.mem_singleton.mp hx ▸ .head _)) (R₄.private (fun b o n z => k₅.keep b o (fun w => n (hD1 b w)) z) k₅.live ho₅ hg₅) ((r₃.mono R₃ rfl E₄).priv k₅ hD1 aD.loc) p₅
    (((ri₃.mono E₄ nofun).mono E5 hD1).append (.cons (ru.mono E5 hD1) .nil))
  | cons g' rest' =>
   rw [hnx.1]
   refine (show W2 (src n g'.iter h ρ₁ μ₂) _ from H) G hr R₃ r₃ fun sr' μ₄ H a' T' ι₄ s₄ E₄ fr' R₄ q₄ => ?_
   have hg' : gens[d + 1]? = some g' := by rw [hnx.1]; rfl
   have go : codeAny (model c.prog c.w) A (.compLoop (.ListComp elt gens scope pos) (d + 1) (.ref a') (.ref D) env) (fun r s' => match r with
      | .ok _ => codeAny (model c.prog c.w) A (.compLoop (.ListComp elt gens scope pos) d (.ref a) (.ref D) env) Rs s'
      | .error e => cameBackBy (model c.prog c.w) A env (notedBy (model c.prog c.w) A env fun e s' => Rs (.error e) s') e s') s₄ :=
    H G hg' hnx.2 hok hr R₄ (r₃.monoAdd R₃ E₄ fr') (r₃.mono R₃ rfl E₄) q₄ (Apart.fresh r₃ R₃ fr') aD hDS (p₃.at fun o e => E₄.keep D o (R₃.disj D hDS) nofun e) ((ri₃.add T' fr').mono E₄ nofun) fun acc₅ ρ₅ μ₅ H ι₅ s₅ items₅ X₅ R₅ r₅ p₅ ri₅ =>
     again H (ExtT.outer E₄ nofun fr' X₅) R₅ r₅ p₅ ri₅
   exact compStart_step hg' (genOk_iff (hok g' (List.mem_of_getElem? hg'))).1 go (iter_self q₄ go)
theorem cmpL_mono {R : List V → Loc → Mem → Prop} (H : W3 (cmpL n elt g rest sr i h ρ acc μ) q) (k : ∀ x ρ μ, q x ρ μ → R x ρ μ) : W3 (cmpL n elt g rest sr i h ρ acc μ) R := by
 intro c A s ι S T env gens scope pos d a D items Rs G hg hrest hok hr RR r r₀ qs ap aD hD p ri K
 exact H G hg hrest hok hr RR r r₀ qs ap aD hD p ri fun x ρ μ z => K x ρ μ (k x ρ μ z)
/-- a comprehension over fixed items; B is what is done with one -/
theorem w_cmpB (xs : List V) (hk : okT sr g.target = true) (I : Nat → List V → Loc → Mem → Prop) (hat : ∀ i acc ρ μ, i ≤ xs.length → I i acc ρ μ → sr.at i μ = some (xs[i]?.map fun v => sr.wrap i v))
  (step : ∀ i v acc ρ μ, xs[i]? = some v → I i acc ρ μ → (∀ acc ρ μ, I (i + 1) acc ρ μ → W3 (cmpL n elt g rest sr (i + 1) h ρ acc μ) q) → W3 (cmpL n elt g rest sr i h ρ acc μ) q)
  (fin : ∀ acc ρ μ, I xs.length acc ρ μ → q acc ρ μ) :
  ∀ (j i : Nat) (acc : List V) (ρ : Loc) (μ : Mem), i + j = xs.length → I i acc ρ μ → W3 (cmpL n elt g rest sr i h ρ acc μ) q := by
 intro j
 induction j with
 | zero =>
  intro i acc ρ μ hj hi
  cases hj
  exact cmp_end ((hat _ acc ρ μ (Nat.le_refl _) hi).trans (by rw [List.getElem?_eq_none (Nat.le_refl _)]; rfl)) (fin acc ρ μ hi)
 | succ j ih =>
  intro i acc ρ μ hj hi
  have hl : i < xs.length := by lia
  exact step i _ acc ρ μ (List.getElem?_eq_getElem hl) hi fun acc ρ μ => ih (i + 1) acc ρ μ (by lia)
theorem w_cmp (xs : List V) (hk : okT sr g.target = true) (I : Nat → List V → Loc → Mem → Prop) (hat : ∀ i acc ρ μ, i ≤ xs.length → I i acc ρ μ → sr.at i μ = some (xs[i]?.map fun v => sr.wrap i v))
  (step : ∀ i v acc ρ μ, xs[i]? = some v → I i acc ρ μ → W2 (asg n g.target (sr.wrap i v) h ρ μ) fun ρ μ => W2 (ifs n g.ifs h ρ μ) fun c μ => if c = true then W2 (ev n elt h ρ μ) fun w μ => acc.length < limit ∧ I (i + 1) (acc ++ [w]) ρ μ else I (i + 1) acc ρ μ)
  (fin : ∀ acc ρ μ, I xs.length acc ρ μ → q acc ρ μ) (hI : I 0 acc ρ μ) : W3 (cmpL n elt g [] sr 0 h ρ acc μ) q :=
 w_cmpB xs hk I hat (fun i v acc ρ μ hv hi nx => cmp_step ((hat i acc ρ μ (Nat.le_of_lt (List.getElem?_eq_some_iff.mp hv).1) hi).trans (by rw [hv]; rfl)) hk (asg_mono (step i v acc ρ μ hv hi) fun ρ μ H => ifs_mono H fun c μ H => by
  cases c
  ·exact nx _ _ _ H
  ·exact ev_mono H fun w μ z => ⟨z.1, nx _ _ _ z.2⟩)) fin xs.length 0 acc ρ μ (Nat.zero_add _) hI
/-- a comprehension of two clauses -/
theorem w_cmp2 {g' : Comprehension} (xs : List V) (hk : okT sr g.target = true) (I : Nat → List V → Loc → Mem → Prop) (hat : ∀ i acc ρ μ, i ≤ xs.length → I i acc ρ μ → sr.at i μ = some (xs[i]?.map fun v => sr.wrap i v))
  (step : ∀ i v acc ρ μ, xs[i]? = some v → I i acc ρ μ → W2 (asg n g.target (sr.wrap i v) h ρ μ) fun ρ μ => W2 (ifs n g.ifs h ρ μ) fun c μ => if c = true then W2 (src n g'.iter h ρ μ) fun s' μ => W3 (cmpL n elt g' rest s' 0 h ρ acc μ) fun acc ρ μ => I (i + 1) acc ρ μ else I (i + 1) acc ρ μ)
  (fin : ∀ acc ρ μ, I xs.length acc ρ μ → q acc ρ μ) (hI : I 0 [] ρ μ) : W3 (cmpL n elt g (g' :: rest) sr 0 h ρ [] μ) q :=
 w_cmpB xs hk I hat (fun i v acc ρ μ hv hi nx => cmp_step ((hat i acc ρ μ (Nat.le_of_lt (List.getElem?_eq_some_iff.mp hv).1) hi).trans (by rw [hv]; rfl)) hk (asg_mono (step i v acc ρ μ hv hi) fun ρ μ H => ifs_mono H fun c μ H => by
  cases c
  ·exact nx _ _ _ H
  ·exact src_mono H fun w μ H => cmpL_mono H fun acc ρ μ z => nx _ _ _ z)) fin xs.length 0 [] ρ μ (Nat.zero_add _) hI
end
end Mine
set_option tactic.hygienic true
namespace Mine
open PySem.W
section
variable {c : Cx} {n : Nat} {A : Around} {E : Value → Shared → Prop} {s : Shared} {ι : Own} {S T : List Addr} {env : Env} {h : Here} {ρ : Loc} {μ : Mem}
theorem comp_V {elt : Expr} {g : Comprehension} {rest : List Comprehension} {sc : Scope} {pos : Pos} {use : Option (Value → Sem Unit)} {Q : Value → Shared → Prop} {q : List V → Mem → Prop} (G : Good c) (hok : compOk sc h.sc (g :: rest) = true)
  (H : W2 (src n g.iter h ρ μ) fun sr μ => W3 (cmpL n elt g rest sr 0 { h with sc := sc } (capt sc ρ) [] μ) fun acc _ μ => q acc μ) (hr : Room A n) (R : Rel c ι S μ s) (r : EnvR env h ι S ρ s.heap)
  (hq : ∀ acc μ', q acc μ' → ∀ D C m ι' s', Ext [] ι s.heap ι' s'.heap → s.heap.get? C = none → Rel c ι' ([C] ++ S) μ' s' → RelV ι' ([C] ++ S) s'.heap (.ref D) (.lst acc) → s'.heap.Ns C m → compPost (model c.prog c.w) A E use Q (.ref D) C (.ok .next) s') :
  wpAny (model c.prog c.w) A (comprehension (.ListComp elt (g :: rest) sc pos) sc env (firstIterPos (g :: rest) pos) (newList []) (firstAsync (g :: rest)) (firstIter (g :: rest) env) use) Q E s := by
 have ok := compOk_iff hok
 have hg0 := genOk_iff (ok.sync g (.head _))
 have hasy : firstAsync (g :: rest) = false := by
  obtain ⟨t, it, i, a⟩ := g
  have : a = 0 := hg0.1
  subst this; rfl
 have hfi : firstIter (g :: rest) env = eval g.iter env := by
  obtain ⟨t, it, i, a⟩ := g; rfl
 obtain ⟨hclo, K, hcS⟩ := clo_V r ok
 rw [hasy, hfi]
 refine wpAny_comprehension_free (g := g) (gs := rest) rfl (hg0.2 env) hclo ok.kind (fun x hx hk => ?_) ?_
 ·obtain ⟨y, k⟩ := x
  cases hk
  exact lookup_of_mem ok.nd hx
 refine H G hr R r fun sr μ₁ H a T ι₁ s₁ E₁ fr R₁ q₁ => ?_
 refine wpAny_newObj_type (T := "list") (data := .seq ([] : List Value).toArray) (dict := none) ?_
 generalize hh₂ : (s₁.heap.push { cls := .type "list", data := .seq ([] : List Value).toArray }) = h₂
 have k₂ : ∀ b o, s₁.heap.get? b = some o → h₂.get? b = some o := fun b o e => hh₂ ▸ Heap.get?_push_of_some _ e
 have hD : h₂.get? s₁.heap.objs.size = some { cls := .type "list", data := .seq ([] : List Value).toArray } := hh₂ ▸ Heap.get?_push_size _ rfl
 generalize hDD : s₁.heap.objs.size = D at hD
 have frD : s₁.heap.get? D = none := hDD ▸ get_size _
 have frD1 : ∀ y ∈ [D], s₁.heap.get? y = none := fun y hy => by rw [List.mem_singleton] at hy; subst hy; exact frD
 have R₂ : Rel c ι₁ ([D] ++ (T ++ S)) μ₁ { s₁ with heap := h₂ } := R₁.addS (s' := { s₁ with heap := h₂ }) [D] frD1 (fun y hy => by rw [List.mem_singleton] at hy; subst hy; show h₂.get? _ ≠ none; rw [hD]; simp) k₂ rfl rfl
 rw [r.glob]
 have E₁₂ : Ext [] ι s.heap ι₁ h₂ := E₁.trans (Ext.of_keeps k₂)
 have K₂ : CloR sc (cloOf env sc.names []) ι₁ ([D] ++ (T ++ S)) (capt sc ρ) h₂ := by
  have keepS : ∀ b ∈ S, ∀ o, s.heap.get? b = some o → h₂.get? b = some o := fun b hb o q => E₁₂.keep b o (R.disj b hb) (fun z => nomatch z) q
  refine ⟨fun x h1 h2 => ?_, K.dom, K.apart, fun p hp => ⟨(K.names p hp).1, fun e => ?_⟩⟩
  ·obtain ⟨cl, v₀, g1, ⟨o, ho, g2⟩, g3, g4⟩ := K.free x h1 h2
   refine ⟨cl, v₀, g1, ⟨o, keepS cl g3 o ho, g2⟩, List.mem_append_right _ (List.mem_append_right _ g3), fun v hv => ?_⟩
   obtain ⟨u, e1, e2⟩ := g4 v hv
   have e3 := (e2.add T fr).mono E₁ fun _ z => nomatch z
   exact ⟨u, e1, (e3.add [D] frD1).mono (X := []) (Ext.of_keeps k₂) fun _ z => nomatch z⟩
  ·cases w : s.heap.get? p.2 with
   | none => exact (K.names p hp).2 w
   | some o =>
    have : p.2 ∈ S := by
     obtain ⟨b, hb⟩ := lookup_some_of_mem (show (p.1, p.2) ∈ cloOf env sc.names [] from hp)
     have := hcS p.1 b hb
     have hpw := K.apart
     by_cases hbp : b = p.2
     ·rw [← hbp]; exact this
     ·rw [cloOf_eq, List.append_nil, List.mem_reverse, List.mem_map] at hp
      obtain ⟨⟨y, kk⟩, hy1, hy2⟩ := hp
      have hm := mem_of_lookup hb
      rw [cloOf_eq, List.append_nil, List.mem_reverse, List.mem_map] at hm
      obtain ⟨⟨y', kk'⟩, hy1', hy2'⟩ := hm
      rw [← hy2] at hy2' hbp
      simp only [Prod.mk.injEq] at hy2'
      obtain ⟨rfl, rfl⟩ := hy2'
      exact absurd rfl hbp
    rw [keepS _ this o w] at e; cases e
 refine newEnv_V (h := { h with sc := sc }) (as := []) (vs := []) (xs := []) (ρ' := capt sc ρ) (s := { s₁ with heap := h₂ }) ok.kind ok.nd (fun e he => by cases he; exact r.blt) R₂ K₂ .nil rfl fun cenv s₃ S₃ hsc _ _ hcells _ R₃ r₃ k₃ hS₃ hfr₃ => ?_
 have hC := hfr₃ cenv.locals (.head _)
 have nocell : cellsFrom (h₂.objs.size + 1) sc.names [] = [] := by
  cases q : cellsFrom (h₂.objs.size + 1) sc.names [] with
  | nil => rfl
  | cons p l => exact absurd rfl (ok.noCell _ (cellsFrom_of_mem sc.names (h₂.objs.size + 1) p.1 p.2 (q ▸ .head _)))
 have hcl : cenv.cells = cloOf env sc.names [] := by
  have : cenv.cells = cellsFrom (h₂.objs.size + 1) sc.names [] ++ cloOf env sc.names [] := hcells
  rw [this, nocell]; rfl
 have own1 : ownA { cenv with scope := relabel sc env } { h with sc := sc } = [cenv.locals] := by
  unfold ownA
  have : ((cenv.cells).filter fun p => sc.names.lookup p.1 == some NameKind.cell) = [] := by
   rw [List.filter_eq_nil_iff]
   intro p hp
   rw [hcl] at hp
   simpa using (K.names p hp).1
  show cenv.locals :: (((cenv.cells).filter fun p => sc.names.lookup p.1 == some NameKind.cell).map (·.2)) = _
  rw [this]; rfl
 have hCs₁ : s₁.heap.get? cenv.locals = none := none_of_keeps k₂ _ hC
 have hCs : s.heap.get? cenv.locals = none := E₁.live _ hCs₁
 have hDs : s.heap.get? D = none := E₁.live _ frD
 have hS3 : ∀ x ∈ cenv.locals :: D :: S, x ∈ S₃ := fun x hx => by
  rcases List.mem_cons.mp hx with rfl | hx
  ·exact r₃.inS _ (.head _)
  ·rcases List.mem_cons.mp hx with rfl | hx
   ·exact hS₃ _ (.head _)
   ·exact hS₃ _ (List.mem_append_right _ (List.mem_append_right _ hx))
 have hT3 : ∀ x ∈ T, x ∈ S₃ := fun x hx => hS₃ _ (List.mem_append_right _ (List.mem_append_left _ hx))
 have hTS3 : ∀ x ∈ T ++ (cenv.locals :: D :: S), x ∈ S₃ := fun x hx => (List.mem_append.mp hx).elim (hT3 x) (hS3 x)
 have R₄ : Rel c ι₁ (T ++ (cenv.locals :: D :: S)) μ₁ s₃ := R₃.subS hTS3
 have rr := r₃.relab (outer := env) hsc
 have cellS : ∀ x cl, isLoc ({ h with sc := sc } : Here).sc x = true → Env.kindOf { cenv with scope := relabel sc env } x ≠ some .local → (cenv.cells).lookup x = some cl → cl ∈ S := fun x cl _ _ e => hcS x cl (hcl ▸ e)
 have r₄ : EnvR { cenv with scope := relabel sc env } { h with sc := sc } ι₁ (cenv.locals :: D :: S) (capt sc ρ) s₃.heap :=
  rr.restrict hS3 (fun a ha => by rw [own1, List.mem_singleton] at ha; subst ha; exact .head _) fun x cl h1 h2 h3 => .tail _ (.tail _ (cellS x cl h1 h2 h3))
 have r₄' : EnvR { cenv with scope := relabel sc env } { h with sc := sc } ι₁ (T ++ (cenv.locals :: D :: S)) (capt sc ρ) s₃.heap :=
  rr.restrict hTS3 (fun a ha => by rw [own1, List.mem_singleton] at ha; subst ha; exact List.mem_append_right _ (.head _)) fun x cl h1 h2 h3 => List.mem_append_right _ (.tail _ (.tail _ (cellS x cl h1 h2 h3)))
 have frCD : ∀ y ∈ [cenv.locals, D], s₁.heap.get? y = none := fun y hy => by
  rcases List.mem_cons.mp hy with rfl | hy
  ·exact hCs₁
  ·exact frD1 y hy
 have q₄ : SrcR ι₁ (T ++ (cenv.locals :: D :: S)) s₃.heap a T sr 0 := by
  have e1 := q₁.add (N := [cenv.locals, D]) frCD
  have e2 := e1.mono (X := []) (ι' := ι₁) (Ext.of_keeps fun b o e => k₃ b o (k₂ b o e)) (fun _ z => nomatch z) fun y hy => ⟨fun z => (nomatch z), R₁.disj y (List.mem_append_left _ hy)⟩
  refine e2.sub fun x hx => ?_
  rcases List.mem_append.mp hx with hx | hx
  ·exact List.mem_append_right _ (List.mem_append_left _ hx)
  ·rcases List.mem_cons.mp hx with rfl | hx
   ·exact .head _
   ·rcases List.mem_cons.mp hx with rfl | hx
    ·exact .tail _ (.head _)
    ·exact List.mem_append_right _ (List.mem_append_right _ hx)
 have hTa : ∀ y ∈ T, s₁.heap.get? y ≠ none := fun y hy => R₁.bound y (List.mem_append_left _ hy)
 have ap : Apart { cenv with scope := relabel sc env } { h with sc := sc } (cenv.locals :: D :: S) T := by
  refine ⟨fun x hx ht => ?_, fun x hx ho => ?_, fun x hx => ⟨fun e => hTa x hx (e ▸ hCs₁), fun y cl h1 h2 h3 e => R.bound cl (cellS y cl h1 h2 h3) (e ▸ fr x hx)⟩⟩
  ·rcases List.mem_cons.mp hx with rfl | hx
   ·exact hTa _ ht hCs₁
   ·rcases List.mem_cons.mp hx with rfl | hx
    ·exact hTa _ ht frD
    ·exact R.bound x hx (fr x ht)
  ·rw [own1, List.mem_singleton] at ho
   subst ho
   exact hTa _ hx hCs₁
 have hDC : D ≠ cenv.locals := fun e => by rw [← e] at hC; exact absurd (hC : h₂.get? D = none) (by rw [hD]; simp)
 have aD : Apart { cenv with scope := relabel sc env } { h with sc := sc } [] [D] := by
  refine ⟨fun _ z => (nomatch z), fun x hx ho => ?_, fun x hx => ?_⟩
  ·rw [List.mem_singleton] at hx
   subst hx
   rw [own1, List.mem_singleton] at ho
   exact hDC ho
  ·rw [List.mem_singleton] at hx
   subst hx
   exact ⟨hDC, fun y cl h1 h2 h3 e => R.bound cl (cellS y cl h1 h2 h3) (e ▸ hDs)⟩
 have p₄ : PL s₃.heap D [] := ⟨0, k₃ _ _ hD⟩
 have go : codeAny (model c.prog c.w) A (.compLoop (.ListComp elt (g :: rest) sc pos) 0 (.ref a) (.ref D) { cenv with scope := relabel sc env }) (compPost (model c.prog c.w) A E use Q (.ref D) cenv.locals) s₃ := by
  refine H G (show (g :: rest)[0]? = some g from rfl) rfl ok.sync hr R₄ r₄' r₄ q₄ ap aD (.tail _ (.head _)) p₄ .nil fun acc ρ' μ' z ι' s' items' X' R' r' p' ri' => ?_
  obtain ⟨m, hm, _⟩ := r'.ns
  have sub : ∀ x ∈ [cenv.locals] ++ S, x ∈ cenv.locals :: D :: S := fun x hx => by
   rcases List.mem_cons.mp hx with rfl | hx
   ·exact .head _
   ·exact .tail _ (.tail _ hx)
  have E₃ : Ext [] ι s.heap ι₁ s₃.heap := E₁₂.trans (Ext.of_keeps k₃)
  have EE : Ext (D :: [cenv.locals]) ι s.heap ι' s'.heap := by
   have := ExtT.outer (X := D :: ownA { cenv with scope := relabel sc env } { h with sc := sc }) E₃ (fun _ z => nomatch z) fr X'
   rwa [own1] at this
  refine hq _ _ z D cenv.locals m ι' s' (EE.shrink fun x hx => .inr ?_) hCs (R'.subS sub) (.lst p' (R'.disj D (.tail _ (.head _))) (fun z => ?_) (ri'.sub sub)) hm
  ·rcases List.mem_cons.mp hx with rfl | hx
   ·exact hDs
   ·rw [List.mem_singleton] at hx; subst hx; exact hCs
  ·rcases List.mem_cons.mp z with z | z
   ·exact hDC z
   ·exact R.bound D z hDs
 exact compStart_step (g := g) rfl hg0.1 go (iter_self q₄ go)
theorem w_comp {elt : Expr} {g : Comprehension} {rest : List Comprehension} {sc : Scope} {pos : Pos} {Q : V → Mem → Prop} (hc : compOk sc h.sc (g :: rest) = true) (H : W2 (src n g.iter h ρ μ) fun s μ => W3 (cmpL n elt g rest s 0 { h with sc := sc } (capt sc ρ) [] μ) fun vs _ μ => Q (.lst vs) μ) :
  W2 (ev n (.ListComp elt (g :: rest) sc pos) h ρ μ) Q := by
 intro c A E s ι S env F G hr R r K
 rw [arm_eval_ListComp]
 refine comp_V G hc H hr R r fun acc μ' z D C m ι₁ s₁ E₁ hC R₁ rv hm => ?_
 have hCS : ∀ a ∈ S, a ∉ [C] := fun a ha q => by rw [List.mem_singleton] at q; subst q; exact R.bound _ ha hC
 show ∃ m, s₁.heap.Ns C m ∧ ∀ h', Heap.SameBut C s₁.heap h' → F (.ref D) { s₁ with heap := h' }
 refine ⟨m, hm, fun h' SB => ?_⟩
 have k : ∀ b o, b ∉ [C] → s₁.heap.get? b = some o → h'.get? b = some o := fun b o q => SB.extBut b o fun e => q (e ▸ .head _)
 refine K _ _ z _ ι₁ _ ?_ (R₁.but (s' := { s₁ with heap := h' }) k hCS rfl rfl) (rv.but k)
 exact ExtT.outer E₁ (fun _ z => nomatch z) (fun x hx => by rw [List.mem_singleton] at hx; subst hx; exact hC) (ExtT.gone (X := []) k)
theorem compU_V {elt : Expr} {g : Comprehension} {rest : List Comprehension} {sc : Scope} {pos : Pos} {t : Str} {tp : Pos} {Q : Value → Shared → Prop} {q : List V → Mem → Prop} (G : Good c) (hok : compOk sc h.sc (g :: rest) = true)
  (H : W2 (src n g.iter h ρ μ) fun sr μ => W3 (cmpL n elt g rest sr 0 { h with sc := sc } (capt sc ρ) [] μ) fun acc _ μ => q acc μ) (hr : Room A n) (R : Rel c ι S μ s) (r : EnvR env h ι S ρ s.heap) (ht : isOwn h.sc t = true)
  (hq : ∀ acc μ', q acc μ' → PostU c ι S s.heap μ' env h (put ρ t (.lst acc)) (fun _ s' => Q .none s')) :
  wpAny (model c.prog c.w) A (comprehension (.ListComp elt (g :: rest) sc pos) sc env (firstIterPos (g :: rest) pos) (newList []) (firstAsync (g :: rest)) (firstIter (g :: rest) env) (some fun v => assignAll v [assign (.Name t tp) env])) Q E s := by
 refine comp_V G hok H hr R r fun acc μ' z D C m ι₁ s₁ E₁ hC R₁ rv hm => ?_
 have hC1 : ∀ y ∈ [C], s.heap.get? y = none := fun x hx => by rw [List.mem_singleton] at hx; subst hx; exact hC
 have hCS : ∀ a ∈ S, a ∉ [C] := fun a ha q => by rw [List.mem_singleton] at q; subst q; exact R.bound _ ha hC
 have r₁ : EnvR env h ι₁ ([C] ++ S) ρ s₁.heap := r.monoAdd R E₁ hC1
 show wpAny _ _ (assign (.Name t tp) env (.ref D)) _ _ _
 refine wpAny_assign_Name (store_V r₁ R₁ ht rv fun s₂ K R₂ r₂ => ?_)
 have hCo : C ∉ ownA env h := fun q => hCS C (r.inS C q) (.head _)
 obtain ⟨o, es, ep, ho, q⟩ := hm
 refine ⟨m, ⟨o, es, ep, K.keep _ _ hCo ho, q⟩, fun h' SB => ?_⟩
 have k : ∀ b o, b ∉ [C] → s₂.heap.get? b = some o → h'.get? b = some o := fun b o q => SB.extBut b o fun e => q (e ▸ .head _)
 refine hq _ _ z ι₁ { s₂ with heap := h' } ?_ (R₂.but (s' := { s₂ with heap := h' }) k hCS rfl rfl) (EnvR.but r r₂ k hCS)
 refine ExtT.outer E₁ (fun _ z => nomatch z) hC1 ((ExtT.of K.ext).trans (ExtT.gone (X := ownA env h) k) (fun x hx => R₁.disj x (List.mem_append_left _ hx)) fun x hx => R₁.bound x (List.mem_append_left _ hx))
/-- the names to which a tuple is stored, from the last one on -/
noncomputable def swapB (ts vs : List Expr) (look : Str → Bool) : Option (Option (List Str)) :=
 if !(ts.length == 2 || ts.length == 3) || vs.length != ts.length then some none
 else if vs.any (fun | .Starred .. => true | _ => false) then some none
 else
  let line := (ts.head?.map (·.pos.line)).getD 0
  let names := ts.filterMap fun
   | .Name id pos => if look id && pos.line == line then some id else none
   | _ => none
  if names.length != ts.length || names.eraseDups.length != names.length then some none
  else if vs.all (foldedForSure 8) then some none
  else if vs.all (constantsAlone 8) then none
  else some (some names)
theorem swapK_B (ts vs : List Expr) (sc : Scope) : swapK ts vs sc = (swapB ts vs fun x => sc.names.lookup x == some .local).map Option.isSome := by
 unfold swapK swapB
 dsimp only
 repeat' split
 all_goals first | rfl | contradiction | skip
theorem swapB_congr {ts vs : List Expr} {f g : Str → Bool} (e : ∀ t ∈ ts, ∀ x p, t = .Name x p → f x = g x) : swapB ts vs f = swapB ts vs g := by
 unfold swapB
 dsimp only
 have key : ∀ (F G : Expr → Option Str), (∀ t ∈ ts, F t = G t) → ts.filterMap F = ts.filterMap G := by
  clear e
  intro F G e
  induction ts with
  | nil => rfl
  | cons t ts ih => rw [List.filterMap_cons, List.filterMap_cons, e t (.head _), ih fun t ht => e t (.tail _ ht)]
 rw [key (fun
   | .Name id pos => if f id && pos.line == (ts.head?.map (·.pos.line)).getD 0 then some id else none
   | _ => none) (fun
   | .Name id pos => if g id && pos.line == (ts.head?.map (·.pos.line)).getD 0 then some id else none
   | _ => none) fun t ht => ?_]
 split
 ·rename_i x p
  rw [e _ ht x p rfl]
 ·rfl
theorem swapped_B {ts vs : List Expr} {k k' : Nat} {p p' : Pos} {env : Env} {o : Option (List Str)} (hk : env.blockKind = .function) (e : swapB ts vs (fun x => env.kindOf x == some .local) = some o) : swappedStores [.Tuple ts k p] (.Tuple vs k' p') env = pure o := by
 unfold swapB at e
 unfold swappedStores
 dsimp only at e ⊢
 have hbk : (env.blockKind != ScopeKind.function) = false := by rw [hk]; rfl
 rw [hbk, Bool.or_false]
 split at e
 ·rename_i hc; cases e; exact if_pos hc
 ·rename_i hc
  refine (if_neg hc).trans ?_
  split at e
  ·rename_i hc; cases e; exact if_pos hc
  ·rename_i hc
   refine (if_neg hc).trans ?_
   split at e
   ·rename_i hc; cases e; exact if_pos hc
   ·rename_i hc
    refine (if_neg hc).trans ?_
    split at e
    ·rename_i hc; cases e; exact if_pos hc
    ·rename_i hc
     refine (if_neg hc).trans ?_
     split at e
     ·cases e
     ·rename_i hc
      cases e
      exact (if_neg hc).trans rfl
theorem own_local (r : EnvR env h ι S ρ s.heap) {x : Str} (hx : isOwn h.sc x = true) : (env.kindOf x == some .local) = (h.sc.names.lookup x == some .local) := by
 by_cases q : h.sc.names.lookup x = some .local
 ·rcases r.ko x hx with e | ⟨_, e⟩
  ·rw [e, q]
  ·rw [q] at e; cases e
 ·have := r.kc x (own_loc hx) q
  rw [beq_eq_false_iff_ne.mpr this, beq_eq_false_iff_ne.mpr q]
theorem names_V {q : Loc → Mem → Prop} : ∀ {names : List Str} {ts : List Expr} {xs : List V} {us : List Value} {ρ : Loc} {μ : Mem} {s : Shared} {F : Unit → Shared → Prop}, W2 (asgs n ts xs h ρ μ) q → ts.map nameOf = names.map some →
  Rel c ι S μ s → EnvR env h ι S ρ s.heap → RelVs ι S s.heap us xs → (∀ ρ' μ', q ρ' μ' → PostU c ι S s.heap μ' env h ρ' F) → wpAny (model c.prog c.w) A (assignInOrder (names.map fun n => bindName env n) us) F E s := by
 intro names
 induction names with
 | nil =>
  intro ts xs us ρ μ s F H e R r ru K
  cases ts with
  | cons => exact nomatch e
  | nil => cases ru with
   | cons => exact False.elim H
   | nil => exact wpAny_pure (K _ _ H ι s (Ext.refl ..) R r)
 | cons x names ih =>
  intro ts xs us ρ μ s F H e R r ru K
  cases ts with
  | nil => exact nomatch e
  | cons t ts => cases ru with
   | nil => exact False.elim H
   | cons ra rr =>
    have e := List.cons.inj e
    have H : asg n t _ h ρ μ fun ρ μ => asgs n ts _ h ρ μ q := H
    unfold asg at H
    rw [e.1] at H
    exact wpAny_bind (wpAny_holding (wpAny_bindName (store_V r R H.1 ra fun s₁ k R₁ r₁ => ih H.2 e.2 R₁ r₁ (rr.mono k.ext r.inS) fun ρ₂ μ₂ z ι₂ s₂ E₂ R₂ r₂ => K _ _ z ι₂ s₂ (k.ext.trans E₂) R₂ r₂)))
theorem swapB_some {ts vs : List Expr} {f : Str → Bool} {names : List Str} (e : swapB ts vs f = some (some names)) : ts.map nameOf = names.map some := by
 unfold swapB at e
 dsimp only at e
 split at e
 ·cases e
 split at e
 ·cases e
 split at e
 ·cases e
 rename_i hc
 split at e
 ·cases e
 split at e
 ·cases e
 simp only [Option.some.injEq] at e
 simp only [Bool.or_eq_true, not_or, bne_iff_ne, ne_eq, Decidable.not_not] at hc
 have hl := hc.1
 rw [e] at hl
 clear hc
 generalize (ts.head?.map (·.pos.line)).getD 0 = line at e
 have key : ∀ (ts : List Expr) (names : List Str), (ts.filterMap fun
   | .Name id pos => if f id && pos.line == line then some id else none
   | _ => none) = names → names.length = ts.length → ts.map nameOf = names.map some := by
  intro ts
  induction ts with
  | nil => rintro _ rfl _; rfl
  | cons t ts ih =>
   rintro _ rfl hl
   have hle := List.length_filterMap_le (fun
    | Expr.Name id pos => if f id && pos.line == line then some id else none
    | _ => none) ts
   rw [List.filterMap_cons] at hl ⊢
   split at hl
   ·simp only [List.length_cons] at hl
    exfalso
    revert hle hl
    generalize (List.filterMap _ ts).length = k
    lia
   ·rename_i x hx
    simp only [List.length_cons, Nat.add_right_cancel_iff] at hl
    split at hx
    ·split at hx
     ·cases hx
      rw [List.map_cons]
      rw [ih _ rfl hl]
      rfl
     ·cases hx
    ·cases hx
 exact key ts names e hl
end
end Mine
set_option tactic.hygienic false
namespace Mine
open PySem.W
section
variable {n : Nat} {h : Here} {ρ : Loc} {μ : Mem} {p p' : Pos} {k : Nat} {R : Fl → Loc → Mem → Prop}
theorem not_interactive {env : Env} {ι : Own} {S : List Addr} {hp : Heap} (r : EnvR env h ι S ρ hp) : interactive env = false := by
 unfold interactive
 rw [r.kind]; rfl
theorem block_function {env : Env} {ι : Own} {S : List Addr} {hp : Heap} (r : EnvR env h ι S ρ hp) : env.blockKind = .function := by
 unfold Env.blockKind
 rw [r.kind]; rfl
noncomputable def isTupE : Expr → Bool := isK 25
noncomputable def isLstE : Expr → Bool := isK 24
noncomputable def isComp (e : Expr) : Bool := isK 8 e || (isK 9 e || isK 10 e)
noncomputable def isName : Expr → Bool := isK 23
theorem noSwap {t e : Expr} {env : Env} (hl : isLstE t = false) (hn : (isTupE t && isTupE e) = false) : swappedStores [t] e env = pure none := by
 induction t using PySem.Expr.casesOn with
 | Tuple => induction e using PySem.Expr.casesOn <;> first | rfl | exact ff hn.symm
 | List => exact ff hl.symm
 | _ => rfl
theorem noWith {t e : Expr} {l : Nat} {env : Env} (hn : (isName t && isComp e) = false) : swapsWith e (some t) l env = pure false := by
 induction e using PySem.Expr.casesOn with
 | ListComp => induction t using PySem.Expr.casesOn <;> first | rfl | exact ff hn.symm
 | SetComp => induction t using PySem.Expr.casesOn <;> first | rfl | exact ff hn.symm
 | DictComp => induction t using PySem.Expr.casesOn <;> first | rfl | exact ff hn.symm
 | _ => rfl
noncomputable def assOk (t e : Expr) : Bool := !isStar t && !isLstE t && !(isTupE t && isTupE e) && !(isName t && isComp e)
theorem w_ass {t e : Expr} (hs : assOk t e = true) (H : W2 (ev n e h ρ μ) fun v μ => W2 (asg n t v h ρ μ) fun ρ μ => R .next ρ μ) : W3 (ex n (.Assign [t] e p) h ρ μ) R := by
 intro c A E s ι S env F G hr RR r K
 unfold assOk at hs
 rw [Bool.and_eq_true, Bool.and_eq_true, Bool.and_eq_true, Bool.not_eq_true', Bool.not_eq_true', Bool.not_eq_true', Bool.not_eq_true'] at hs
 refine wpAny_Assign_stores (H G hr RR r fun v μ₁ H u ι₁ s₁ E₁ R₁ ru => ?_) (noWith hs.2) (noSwap hs.1.1.2 hs.1.2)
 rw [assignEach_cons t [] env (star_ne hs.1.1.1)]
 exact asg_sem H G hr R₁ (r.mono RR rfl E₁) ru fun ρ₂ μ₂ q ι₂ s₂ E₂ R₂ r₂ => K _ _ _ q .next ι₂ s₂ ((E₁.weaken nofun).trans E₂) R₂ r₂ .next
/-- a comprehension stored to a name -/
theorem w_assC {x : Str} {px : Pos} {elt : Expr} {g : Comprehension} {rest : List Comprehension} {sc : Scope} {pc : Pos} (ho : isOwn h.sc x = true) (hc : compOk sc h.sc (g :: rest) = true) (H : W2 (src n g.iter h ρ μ) fun s μ => W3 (cmpL n elt g rest s 0 { h with sc := sc } (capt sc ρ) [] μ) fun vs _ μ => W2 (asg n (.Name x px) (.lst vs) h ρ μ) fun ρ μ => R .next ρ μ) :
  W3 (ex n (.Assign [.Name x px] (.ListComp elt (g :: rest) sc pc) p) h ρ μ) R := by
 intro c A E s ι S env F G hr RR r K
 cases hb : (env.blockKind == .function && env.kindOf x == some .local && px.line == pc.line && !(sc.names.any fun (n, k) => n == x && (k == .local || k == .cell))) with
 | false =>
  have H : W2 (ev n (.ListComp elt (g :: rest) sc pc) h ρ μ) fun v μ => W2 (asg n (.Name x px) v h ρ μ) fun ρ μ => R .next ρ μ := w_comp hc H
  refine wpAny_Assign_stores (H G hr RR r fun v μ₁ H u ι₁ s₁ E₁ R₁ ru => ?_) (by show pure (f := Sem) _ = _; exact congrArg pure hb) rfl
  exact asg_sem H G hr R₁ (r.mono RR rfl E₁) ru fun ρ₂ μ₂ q ι₂ s₂ E₂ R₂ r₂ => K _ _ _ q .next ι₂ s₂ ((E₁.weaken nofun).trans E₂) R₂ r₂ .next
 | true =>
  rw [arm_exec_Assign]
  refine wpAny_bind (wpAny_standAt ?_)
  have hs : swapsWithSole [.Name x px] (.ListComp elt (g :: rest) sc pc) p.line env = pure true := by
   show pure (f := Sem) _ = _; exact congrArg pure hb
  rw [hs]
  refine wpAny_bind (wpAny_pure ?_)
  rw [if_pos rfl, arm_evalThenUse_ListComp]
  refine wpAny_bind (wpAny_bind (compU_V G hc H hr RR r ho fun acc μ₁ q ι₁ s₁ E₁ R₁ r₁ => ?_))
  exact wpAny_pure (wpAny_pure (K _ _ _ q.2 .next ι₁ s₁ E₁ R₁ r₁ .next))
noncomputable def tgtOk (sc : Scope) (ts : List Expr) : Bool := noStar ts && ts.all fun t => match nameOf t with
 | some x => isOwn sc x
 | none => true
theorem w_assT {ts vs : List Expr} {k1 k2 : Nat} {p1 p2 : Pos} {sw : Bool} (ho : tgtOk h.sc ts = true) (hs : swapK ts vs h.sc = some sw)
  (H : W2 (ev n (.Tuple vs k2 p2) h ρ μ) fun v μ => W1 (itemsOf v μ) fun xs => if sw = true then W2 (asgsL n ts.reverse xs.reverse h ρ μ) fun ρ μ => R .next ρ μ else W2 (asgsL n ts xs h ρ μ) fun ρ μ => R .next ρ μ) :
  W3 (ex n (.Assign [.Tuple ts k1 p1] (.Tuple vs k2 p2) p) h ρ μ) R := by
 intro c A E s ι S env F G hr RR r K
 unfold tgtOk at ho
 rw [Bool.and_eq_true, List.all_eq_true] at ho
 rw [swapK_B, ← swapB_congr (f := fun x => env.kindOf x == some .local) fun t ht x p e => own_local r (by subst e; exact ho.2 _ ht), Option.map_eq_some_iff] at hs
 obtain ⟨o, hs, rfl⟩ := hs
 have hsw := swapped_B (k := k1) (k' := k2) (p := p1) (p' := p2) (block_function r) hs
 rw [arm_exec_Assign]
 refine wpAny_bind (wpAny_standAt ?_)
 rw [show swapsWithSole [.Tuple ts k1 p1] (.Tuple vs k2 p2) p.line env = pure false from rfl]
 refine wpAny_bind (wpAny_pure ?_)
 rw [if_neg (by decide)]
 refine wpAny_bind (H G hr RR r fun v μ₁ H u ι₁ s₁ E₁ R₁ ru => ?_)
 rw [hsw]
 refine wpAny_bind (wpAny_pure ?_)
 have r₁ := r.mono RR rfl E₁
 have E₁' := E₁.weaken (Y := ownA env h) nofun
 obtain ⟨xs, hx, H⟩ := H
 cases o with
 | none =>
  have H : asgsL n ts xs h ρ μ₁ fun ρ μ => R .next ρ μ := H
  have i := each_len env ho.1
  show wpAny (model c.prog c.w) A ((do assignAll u [assign (.Tuple ts k1 p1) env]; pure Flow.next : Sem Flow)) F E s₁
  refine wpAny_bind ?_
  show wpAny _ _ (assign (.Tuple ts k1 p1) env u) _ _ _
  rw [arm_assign_Tuple]
  refine wpAny_bind (wpAny_standAt ?_)
  unfold unpack
  rw [i.1, i.2, H.1]
  refine wpAny_bind (wpAny_holding (unpack_V hr.handled R₁ ru hx fun us s₂ k₂ R₂ rus => ?_))
  exact asgs_sem H.2 ho.1 G hr R₂ (r₁.keeps k₂) rus fun ρ₃ μ₃ q ι₃ s₃ E₃ R₃ r₃ => wpAny_pure (K _ _ _ q .next ι₃ s₃ ((E₁'.trans (Ext.of_keeps k₂)).trans E₃) R₃ r₃ .next)
 | some names =>
  have H : asgsL n ts.reverse xs.reverse h ρ μ₁ fun ρ μ => R .next ρ μ := H
  have hnm := swapB_some hs
  have hl : xs.length = names.length := by
   have e2 := congrArg List.length hnm
   rw [List.length_map, List.length_map] at e2
   rw [← e2, ← List.length_reverse, ← H.1, List.length_reverse]
  show wpAny (model c.prog c.w) A (do rule "assign.swapped-stores"; let items ← unpackItems u names.length none; assignInOrder (names.reverse.map fun n => bindName env n) items.reverse; pure Flow.next) F E s₁
  rw [← hl]
  refine wpAny_bind (wpAny_rule (wpAny_bind (unpack_V hr.handled R₁ ru hx fun us s₂ k₂ R₂ rus => wpAny_bind ?_)))
  have E₂ : Ext [] ι₁ s₁.heap ι₁ s₂.heap := Ext.of_keeps k₂
  exact names_V H.2 (by rw [List.map_reverse, List.map_reverse, hnm]) R₂ (r₁.mono R₁ rfl E₂) rus.reverse fun ρ₃ μ₃ q ι₃ s₃ E₃ R₃ r₃ => wpAny_pure (K _ _ _ q .next ι₃ s₃ ((E₁'.trans (E₂.weaken nofun)).trans E₃) R₃ r₃ .next)
theorem w_expr {f : Expr} {args : List Expr} {kw : List Keyword} (H : W2 (ev n (.Call f args kw p) h ρ μ) fun _ μ => R .next ρ μ) : W3 (ex n (.Expr (.Call f args kw p) p') h ρ μ) R := by
 intro c A E s ι S env F G hr RR r K
 exact wpAny_Expr_any (H G hr RR r fun x μ₁ q v ι₁ s₁ E₁ R₁ _ => K _ _ _ q .next ι₁ s₁ (E₁.weaken nofun) R₁ (r.mono RR rfl E₁) .next) (not_interactive r) rfl
theorem w_ret0 (q : R (.ret .none) ρ μ) : W3 (ex n (.Return none p) h ρ μ) R := by
 intro c A E s ι S env F G hr RR r K
 exact wpAny_Return_none (K _ _ _ q _ ι s (Ext.refl ..) RR r (.ret .none))
theorem w_ret {e : Expr} (H : W2 (ev n e h ρ μ) fun v μ => R (.ret v) ρ μ) : W3 (ex n (.Return (some e) p) h ρ μ) R := by
 intro c A E s ι S env F G hr RR r K
 exact wpAny_Return_some (H G hr RR r fun x μ₁ q v ι₁ s₁ E₁ R₁ rv => K _ _ _ q _ ι₁ s₁ (E₁.weaken nofun) R₁ (r.mono RR rfl E₁) (.ret rv))
theorem w_ite {t : Expr} {b o : List Stmt} (H : W2 (tst n t h ρ μ) fun c μ => if c = true then W3 (exs n b h ρ μ) R else W3 (exs n o h ρ μ) R) : W3 (ex n (.If t b o p) h ρ μ) R := by
 intro c A E s ι S env F G hr RR r K
 rw [arm_exec_If]
 refine wpAny_bind (wpAny_standAt (wpAny_bind (H G hr RR r fun cc μ₁ H ι₁ s₁ E₁ R₁ => ?_)))
 have K2 : ∀ {fl ρ' μ'}, R fl ρ' μ' → PostF c ι₁ S s₁.heap μ' env h ρ' fl F := fun q f ι₂ s₂ E₂ => K _ _ _ q f ι₂ s₂ ((E₁.weaken nofun).trans E₂)
 cases cc
 ·exact (show W3 (exs n o h ρ μ₁) R from H) G hr R₁ (r.mono RR rfl E₁) fun fl ρ' μ' q => K2 q
 ·exact (show W3 (exs n b h ρ μ₁) R from H) G hr R₁ (r.mono RR rfl E₁) fun fl ρ' μ' q => K2 q
theorem w_whileL {t : Expr} {b : List Stmt} (H : W3 (whl n t b h ρ μ) R) : W3 (ex n (.While t b [] p) h ρ μ) R := by
 intro c A E s ι S env F G hr RR r K
 exact wpAny_While (H G hr RR r fun fl ρ' μ' q => K _ _ _ q)
theorem w_forL {t i : Expr} {b : List Stmt} (hs : isSetE i = false) (H : W2 (src n i h ρ μ) fun s μ => W3 (fr n t b s 0 h ρ μ) R) : W3 (ex n (.For t i b [] p) h ρ μ) R := by
 intro c A E s ι S env F G hr RR r K
 refine wpAny_For ?_ (fun v => noSet hs env v)
 exact H G hr RR r fun sr μ₁ H a T ι₁ s₁ E₁ fr R₁ q₁ => H G hr R₁ (r.monoAdd RR E₁ fr) (r.mono RR rfl E₁) q₁ (Apart.fresh r RR fr) fun fl ρ' μ' q f ι₂ s₂ X₂ R₂ r₂ rf => K _ _ _ q f ι₂ s₂ (ExtT.outer E₁ nofun fr X₂) R₂ r₂ rf
theorem w_delS {o lo : Expr} {p1 p2 : Pos} (H : W2 (ev n o h ρ μ) fun w μ => W2 (ev n lo h ρ μ) fun x μ => ∃ k i vs, w = .ref k ∧ x = .int i ∧ μ[k]? = some (.lst vs) ∧ (0 ≤ i ∧ i ≤ vs.length ∧ vs.length < limit) ∧ R .next ρ (μ.set k (.lst (vs.take i.toNat)))) :
  W3 (ex n (.Delete [.Subscript o (.Slice (some lo) none none p1) p2] p) h ρ μ) R := by
 intro c A E s ι S env F G hr RR r K
 rw [arm_exec_Delete]
 refine wpAny_bind (wpAny_standAt (wpAny_bind (wpAny_bind ?_)))
 refine wpAny_bind (H G hr RR r fun w μ₁ H u ι₁ s₁ E₁ R₁ ru => wpAny_bind (wpAny_holding (wpAny_Slice (H G hr R₁ (r.mono RR rfl E₁) fun x μ₂ H u' ι₂ s₂ E₂ R₂ ru' => wpAny_pure (wpAny_pure ?_)))))
 obtain ⟨k, i, vs, rfl, rfl, hm, hc, q⟩ := H
 obtain ⟨tk, rfl⟩ := relVs_of_int ru'
 refine wpAny_bind (wpAny_standAt (wpAny_bind (wpAny_holding ?_)))
 have E12 := E₁.trans E₂
 exact R₂.lstI (P := fun z => wpAny _ _ (delItem z _) _ _ _) (ru.mono E₂ nofun) hm fun a hn => delSlice_lst _ (R₂.keeps (push_keeps _ _) rfl rfl) hn hm hc.1 hc.2.1 hc.2.2 (Heap.IsSliceOf.new ..) fun s₄ E4 R₄ => PyProof.Rows.wpAny_release' (wpAny_pure (wpAny_pure
  (K _ _ _ q .next ι₂ s₄ (((E12.trans (Ext.of_keeps (push_keeps _ _))).trans E4).weaken nofun) R₄ (r.mono RR rfl ((E12.trans (Ext.of_keeps (push_keeps _ _))).trans E4)) .next)))
noncomputable def isSlice : Expr → Bool := isK 26
theorem w_delI {o i : Expr} {p2 : Pos} (H : W2 (ev n o h ρ μ) fun w μ => W2 (ev n i h ρ μ) fun x μ => ∃ k es, w = .ref k ∧ μ[k]? = some (.dict es) ∧ (okKey es x && decide (es.length < limit) && (dget es x).isSome) = true ∧ R .next ρ (μ.set k (.dict (ddel es x)))) :
  W3 (ex n (.Delete [.Subscript o i p2] p) h ρ μ) R := by
 intro c A E s ι S env F G hr RR r K
 rw [arm_exec_Delete]
 refine wpAny_bind (wpAny_standAt (wpAny_bind (wpAny_bind ?_)))
 refine wpAny_bind (H G hr RR r fun w μ₁ H u ι₁ s₁ E₁ R₁ ru => wpAny_bind (wpAny_holding (H G hr R₁ (r.mono RR rfl E₁) fun x μ₂ H u' ι₂ s₂ E₂ R₂ ru' => ?_)))
 obtain ⟨k, es, rfl, hm, hc, q⟩ := H
 rw [Bool.and_eq_true, Bool.and_eq_true, decide_eq_true_eq] at hc
 refine wpAny_bind (wpAny_standAt (wpAny_bind (wpAny_holding ?_)))
 have E12 := E₁.trans E₂
 exact R₂.dictI (P := fun z => wpAny _ _ (delItem z _) _ _ _) (ru.mono E₂ nofun) hm fun a hn => delItem_dict _ hr.u1' R₂ hn hm ru' hc.1.1 hc.1.2 hc.2 fun s₄ E4 R₄ => PyProof.Rows.wpAny_release' (wpAny_pure (wpAny_pure
  (K _ _ _ q .next ι₂ s₄ ((E12.trans E4).weaken nofun) R₄ (r.mono RR rfl (E12.trans E4)) .next)))
end
end Mine
set_option tactic.hygienic true
set_option tactic.hygienic false
namespace Mine
open PySem.W
theorem dict0 {c : Cx} {s : Shared} {ι : Own} {S : List Addr} {μ : Mem} (R : Rel c ι S μ s) (tk : Nat) : Rel c (ι ++ [(s.heap.objs.size, none)]) S (μ ++ [.dict []]) { s with heap := s.heap.push { cls := .type "dict", data := .dict #[] }, toks := tk } ∧ Ext [] ι s.heap (ι ++ [(s.heap.objs.size, none)]) (s.heap.push { cls := .type "dict", data := .dict #[] }) :=
 R.alloc (s' := { s with heap := s.heap.push { cls := .type "dict", data := .dict #[] }, toks := tk }) (p := (s.heap.objs.size, none)) (o := .dict []) (push_keeps _ _) rfl rfl
  (by intro b hb; simp at hb; subst hb; exact get_size _) (by simp) (fun E => .dict ⟨0, Heap.get?_push_size _ rfl⟩ .nil .nil)
namespace F
theorem entry_dict_update_loop : entryFor table "dict.update.loop" = some Builtin.«dict.update.loop» := entryFor_of_tree (by kernel_rfl)
theorem plain_dict_update_loop : plainId "dict.update.loop" = true := by decide +kernel
theorem list_keys_none : typeLookup (.type "list") "keys" = pure none := am_miss_of_fast (by decide +kernel)
end F
section
variable {prog : Program} {w : World} {A : Around} {E : Value → Shared → Prop} {s : Shared}
theorem noKeys_list {a : Addr} {xs : Array Value} {k : Nat} {Q : Option Value → Shared → Prop}
  (hx : s.heap.get? a = some { cls := .type "list", dict := none, data := .seq xs k, slots := #[] }) (hA : A.handled = none)
  (h : ∀ h' tk, (∀ b ob, s.heap.get? b = some ob → h'.get? b = some ob) → Q none { s with heap := h', toks := tk }) :
  wpAny (model prog w) A (getAttr? (.ref a) "keys") Q E s := by
 obtain ⟨hp, g, d, tk, os⟩ := s
 have hT : ∀ tk', (⟨hp, g, d, tk', os⟩ : Shared).TypeIs (.ref a) "list" := fun _ => ⟨_, hx, rfl⟩
 have f1 := sub_AttributeError
 have f3 := PySem.F.slot_list_getattribute.lookup
 have f4 := PySem.F.slot_list_getattribute.bind (.ref a)
 have f5 := am_list_getattr_none
 unfold getAttr? getAttrBy? getAttrBy
 repeat (any_goals (first | assumption | exact hT _ | ((with_reducible show wpAny _ _ (call (Value.builtin "list.__getattribute__") _ _) _ _ _); refine call_meets PySem.F.slot_list_getattribute (hT _) am_entry_list_getattribute (PySem.F.args_list_getattribute_2 _ _) (meets_getattribute_miss_list a xs k #[] "keys" _ F.list_keys_none (by decide) (by decide)) ⟨hx, hA, fun h' tk' e hx' => ?_⟩) | wp_step))
 obtain ⟨t', u', he⟩ := hx'.there
 show wpAny _ _ (getattributeRaised _ _ _ _ _ _ _) _ _ _
 unfold getattributeRaised
 repeat (any_goals (first | assumption | wp_step))
 exact h _ _ hx'.keeps
end
section
variable {c : Cx} {A : Around} {E : Value → Shared → Prop} {S : List Addr} {a D it : Addr} {ι : Own}
theorem drop_cons {α : Type} {l r : List α} {i : Nat} {x : α} (h : l.drop i = x :: r) : l[i]? = some x ∧ l.drop (i + 1) = r := ⟨by rw [← List.head?_drop, h]; rfl, by rw [← List.tail_drop, h]; rfl⟩
theorem set_same {α : Type} {l : List α} {k : Nat} {x : α} (h : l[k]? = some x) : l.set k x = l := by
 obtain ⟨hl, he⟩ := List.getElem?_eq_some_iff.mp h
 rw [← he]; exact List.set_getElem_self hl
theorem one_sub {P : Addr → Prop} (h : P it) : ∀ x ∈ [it], P x := fun _ hx => (List.mem_singleton.mp hx).symm ▸ h
theorem updLoop (k : Nat) (hh : A.handled = none) (hu : A.units + 2 < cLine) (hD : ι[k]? = some (D, none)) (hS : it ∉ S) (ho : a ∉ owned ι) (hne : a ≠ it) {Rs : Result → Shared → Prop} {vs : List Value} {xs ys : List V} {kvs es : List (V × V)} (hp : PairsD ys kvs es) :
  ∀ (i : Nat) (t : Tok) {s : Shared} {μ : Mem}, xs.drop i = ys → Rel c ι ([it] ++ S) μ s → μ[k]? = some (.dict kvs) → s.heap.IsListIter it a i → PL s.heap a vs → RelVs ι ([it] ++ S) s.heap vs xs →
   (∀ s', ExtT [] [it] ι s.heap ι s'.heap → Rel c ι S (μ.set k (.dict es)) s' → Rs (.ok (.ret .none)) s') →
   codeAny (model c.prog c.w) A (.builtin "dict.update.loop" ⟨[.ref D, .ref it, .int i t, .none], []⟩) Rs s := by
 induction hp with
 | nil kvs =>
  intro i t s μ hd R hm hit p rv hR
  refine codeAny_builtin F.entry_dict_update_loop ?_
  rw [Around.under_plainId F.plain_dict_update_loop _]
  show wpAny _ A.in1 (pyNext (.ref it) >>= _) _ _ s
  refine wpAny_bind (wpAny_pyNext_list_end hh hit p.isList (Array.getElem?_eq_none (by rw [List.size_toArray, rv.length]; exact List.drop_eq_nil_iff.mp hd)) fun h' hs => ?_)
  show wpAny _ A.in1 (Builtin.Dict.addKeywords D [] >>= _) _ _ _
  have kk : ∀ b o, b ∉ [it] → s.heap.get? b = some o → h'.get? b = some o := fun b o q e => hs b o (fun z => q (z ▸ .head _)) e
  exact wpAny_bind (wpAny_pure (wpAny_pure (hR { s with heap := h' } (ExtT.gone kk) ((set_same hm).symm ▸ R.but (s' := { s with heap := h' }) kk (fun b hb q => hS (List.mem_singleton.mp q ▸ hb)) rfl rfl))))
 | cons hk hz _ ih =>
  intro i t s μ hd R hm hit p rv hR
  obtain ⟨hx, hd⟩ := drop_cons hd
  obtain ⟨v, hv, rx⟩ := rv.get hx
  obtain ⟨b, us, ⟨pt, n1, n2, rr⟩, rfl⟩ := rx.is
  obtain ⟨kv, us, ⟨rk, r2⟩, rfl⟩ := rr.is
  obtain ⟨vv, us, ⟨ru, r3⟩, rfl⟩ := r2.is
  obtain rfl : us = [] := r3.is
  refine codeAny_builtin F.entry_dict_update_loop ?_
  rw [Around.under_plainId F.plain_dict_update_loop _]
  show wpAny _ A.in1 (pyNext (.ref it) >>= _) _ _ s
  refine wpAny_bind (wpAny_pyNext_list_item hit p.isList (x := .ref b) (List.getElem?_toArray.trans hv) fun h₁ hit₁ hs₁ => ?_)
  have hin : ∀ x ∈ [it], x ∈ [it] ++ S := fun x hx => List.mem_append_left _ hx
  have K₁ : Kept [it] s.heap h₁ := hit₁.elim fun _ z => kept_one hs₁ z.1
  have R₁ : Rel c ι ([it] ++ S) μ { s with heap := h₁ } := R.private (fun b o n z => K₁.keep b o (fun w => n (hin b w)) z) K₁.live rfl rfl
  have ka : ∀ o, s.heap.get? a = some o → h₁.get? a = some o := fun o e => K₁.keep _ o (fun q => hne (List.mem_singleton.mp q)) e
  have hitn : it ∉ owned ι := R.disj it (.head _)
  show wpAny _ A.in1 (holding [Value.ref b] _ >>= _) _ _ _
  refine wpAny_bind (wpAny_holding (wpAny_bind (wpAny_tryCatch ?_)))
  unfold Builtin.Dict.pairItems
  have pt₁ := pt.at (h' := h₁) fun o e => K₁.keep _ o (fun q => n2 (hin _ q)) e
  refine wpAny_bind (wpAny_typeOf pt₁.isTuple.typeIs (wpAny_ite_true (by decide) (wpAny_bind ?_)))
  refine pt₁.elim fun q ept => wpAny_seqItems ept rfl (wpAny_pure ?_)
  show wpAny _ A.in1 (holding [kv, vv] (dictSet D kv vv)) _ _ _
  refine wpAny_holding (dictSet_V k (Nat.lt_of_succ_lt hu) R₁ hD hm (rk.mono (K₁.ext (ι := ι)) hin) (ru.mono (K₁.ext (ι := ι)) hin) hk hz fun s₂ E₂ R₂ => ?_)
  refine wpAny_pure ⟨plainId_quiet F.plain_dict_update_loop _, ?_⟩
  refine ih (i + 1) 0 hd R₂ (List.getElem?_set_self (getElem_some hm)) (hit₁.elim fun o2 z => ⟨o2, E₂.keep it o2 hitn nofun z.1, z.2⟩) ((p.at ka).at fun o e => E₂.keep a o ho nofun e) ((rv.mono (K₁.ext (ι := ι)) hin).mono E₂ nofun) fun s₃ E₃ R₃ => ?_
  rw [List.set_set] at R₃
  exact hR s₃ ((ExtT.kept K₁).trans ((ExtT.of E₂).trans E₃ (one_sub hitn) (one_sub (R₁.bound _ (.head _)))) (one_sub hitn) (one_sub (R.bound _ (.head _)))) R₃
theorem dict_lst {s : Shared} {μ : Mem} {Q : Value → Shared → Prop} {xs : List V} {vs : List Value} {es : List (V × V)} (hh : A.handled = none) (hu : A.units + 12 < cLine) (R : Rel c ι S μ s) (p : PL s.heap a vs) (ho : a ∉ owned ι) (r : RelVs ι S s.heap vs xs) (e : PairsD xs [] es)
  (hq : PostV c ι S s.heap (μ ++ [.dict es]) (.ref μ.length) Q) : wpAny (model c.prog c.w) A (call (.type "dict") [.ref a]) Q E s := by
 refine callType_codes (Q₁ := fun obj s₁ => obj = .ref s.heap.objs.size ∧ s₁ = { s with heap := s.heap.push { cls := .type "dict", data := .dict #[] } }) PySem.F.kt_called_dict (PySem.F.kt_typeCall_dict_1 _) PySem.F.entry_dict_init (kt_code_dict_new _ ⟨rfl, rfl⟩) ?_
 rintro obj s₁ ⟨rfl, rfl⟩
 obtain ⟨R₁, E₁⟩ := dict0 R s.toks
 have hT : Shared.TypeIs { s with heap := s.heap.push { cls := .type "dict", data := .dict #[] } } (.ref s.heap.objs.size) "dict" := ⟨_, Heap.get?_push_size _ rfl, rfl⟩
 have hD : (ι ++ [(s.heap.objs.size, (none : Option Addr))])[μ.length]? = some (s.heap.objs.size, none) := by rw [← R.len]; simp
 have hm : (μ ++ [O.dict []])[μ.length]? = some (.dict []) := by simp
 have p₁ : PL (s.heap.push { cls := .type "dict", data := .dict #[] }) a vs := p.at (push_keeps _ _ _)
 have ho₁ : a ∉ owned (ι ++ [(s.heap.objs.size, (none : Option Addr))]) := fun q => by
  rcases E₁.fresh a q with z | z
  ·exact ho z
  ·exact p.live z
 have rv₁ := r.mono E₁ fun _ z => nomatch z
 refine ⟨hT, PySem.F.args_dict_init_2 _ _, ?_⟩
 unfold Builtin.«dict.__init__»
 refine wpAny_bind ?_
 unfold Builtin.Dict.selfAndRest
 refine wpAny_bind (wpAny_notOrdered_dict hT ?_)
 show wpAny _ _ (pure (s.heap.objs.size, [Value.ref a])) _ _ _
 refine wpAny_pure ?_
 show wpAny _ _ (Builtin.Dict.updateFrom "dict.__init__" s.heap.objs.size (.ref a) [] .none) _ _ _
 unfold Builtin.Dict.updateFrom
 refine wpAny_bind (wpAny_typeOf p₁.typeIs ?_)
 rw [if_pos (by decide)]
 obtain ⟨q, ep⟩ := id p₁
 refine wpAny_bind (noKeys_list ep (by simpa using hh) fun h₂ tk k₂ => ?_)
 simp only [Option.isNone_none, if_true]
 refine wpAny_bind (wpAny_rule ?_)
 have R₂ := R₁.keeps (s' := { s with heap := h₂, toks := tk }) k₂ rfl rfl
 have E₂ : Ext [] (ι ++ [(s.heap.objs.size, (none : Option Addr))]) (s.heap.push { cls := .type "dict", data := .dict #[] }) (ι ++ [(s.heap.objs.size, (none : Option Addr))]) h₂ := Ext.of_keeps k₂
 have p₂ : PL h₂ a vs := p₁.at (k₂ a)
 have rv₂ := rv₁.mono E₂ fun _ z => nomatch z
 refine wpAny_bind (wpAny_pyIter_list (s := { s with heap := h₂, toks := tk }) p₂.isList ?_)
 have frI : ∀ x ∈ [h₂.objs.size], h₂.get? x = none := one_none h₂
 have R₃ : Rel c (ι ++ [(s.heap.objs.size, (none : Option Addr))]) ([h₂.objs.size] ++ S) (μ ++ [.dict []]) { s with heap := h₂.push { cls := .type "list_iterator", data := .fields #[.ref a, .int 0 0] }, toks := tk } :=
  R₂.addS (s' := { s with heap := h₂.push { cls := .type "list_iterator", data := .fields #[.ref a, .int 0 0] }, toks := tk }) [h₂.objs.size] frI (fun y hy => by rw [List.mem_singleton] at hy; subst hy; show (h₂.push _).get? _ ≠ none; rw [Heap.get?_push_size _ rfl]; simp) (push_keeps _ _) rfl rfl
 have hit : (h₂.push { cls := .type "list_iterator", data := .fields #[.ref a, .int 0 0] }).IsListIter h₂.objs.size a 0 := ⟨_, Heap.get?_push_size _ rfl, rfl, rfl⟩
 have hne : a ≠ h₂.objs.size := fun z => p₂.live (z ▸ get_size h₂)
 have hIS : h₂.objs.size ∉ S := fun z => R₂.bound _ z (get_size h₂)
 refine wpAny_pure ⟨plainId_quiet F.plain_dict_update_loop _, ?_⟩
 refine updLoop (A := A.in1) μ.length hh (by show A.units + 1 + 2 < _; lia) hD hIS ho₁ hne e 0 0 rfl R₃ hm hit (p₂.at (push_keeps _ _ _)) ((rv₂.add [h₂.objs.size] frI).mono (X := []) (Ext.of_keeps (push_keeps _ _)) fun _ z => nomatch z) fun s₄ E₄ R₄ => ?_
 have hset : (μ ++ [O.dict []]).set μ.length (.dict es) = μ ++ [.dict es] := by simp
 rw [hset] at R₄
 have EE : Ext [] ι s.heap (ι ++ [(s.heap.objs.size, (none : Option Addr))]) s₄.heap := by
  refine ExtT.outer (((E₁.trans E₂).trans (Ext.of_keeps (push_keeps h₂ _)))) (fun _ z => nomatch z) (fun x hx => ?_) E₄
  rw [List.mem_singleton] at hx
  subst hx
  exact none_of_keeps (fun b o z => k₂ b o (push_keeps _ _ b o z)) _ (get_size h₂)
 exact ⟨rfl, hq _ _ s₄ EE R₄ (.ref hD)⟩
end
end Mine
set_option tactic.hygienic true
set_option tactic.hygienic false
set_option maxRecDepth 100000
namespace Mine
open PySem.W
section
variable {prog : Program} {w : World} {A : Around} {E : Value → Shared → Prop} {s : Shared} {d I : Addr} {es : List DictEntry}
/-- the entries as they stand -/
noncomputable def DAt (h : Heap) (d : Addr) (es : List DictEntry) (ep : Nat) : Prop := h.get? d = some { cls := .type "dict", dict := none, data := .dict es.toArray ep, slots := #[] }
theorem keyIter (lo : (d == sysModules) = false) {ep : Nat} {Q : Value → Shared → Prop} (hd : DAt s.heap d es ep)
  (hq : Q (.ref s.heap.objs.size) { s with heap := s.heap.push { cls := .type "dict_keyiterator", data := .fields #[.ref d, .int 0 0, .int es.length 0, .int ep 0] } }) : wpAny (model prog w) A (pyIter (.ref d)) Q E s := by
 have hT : s.TypeIs (.ref d) "dict" := ⟨_, hd, rfl⟩
 refine wpAny_pyIter_slot hT PySem.F.slot_dict_iter (wpAny_call_entry PySem.F.slot_dict_iter hT PySem.F.entry_dict_iter ?_ (PySem.F.args_dict_iter_1 _))
 unfold Builtin.«dict.__iter__» Builtin.Dict.dictSlotNone
 refine wpAny_bind (wpAny_bind (wpAny_notOrdered_dict hT ?_))
 show wpAny _ _ (pure (Value.ref d)) _ _ s
 refine wpAny_pure ?_
 show wpAny _ _ (Builtin.Dict.showsAll d >>= _) _ _ s
 have hs : Builtin.Dict.showsAll d = pure () := by unfold Builtin.Dict.showsAll; rw [lo]; rfl
 rw [hs]
 refine wpAny_bind (wpAny_pure ?_)
 refine wpAny_bind (wpAny_dictEntries hd rfl (wpAny_bind (wpAny_dictEpoch hd rfl (wpAny_bind (wpAny_newObj_type ?_)))))
 exact wpAny_pure ⟨_, rfl, "dict_keyiterator", _, ⟨_, Heap.get?_push_size _ rfl, rfl⟩, PySem.F.slot_dict_keyiterator_next.lookup, by simpa [rawInt] using hq⟩
theorem keyNext {i ep : Nat} {e : DictEntry} {Q : Option Value → Shared → Prop} (hit : s.heap.IsKeyIter I d i es.length ep) (hd : DAt s.heap d es ep) (hx : es[i]? = some e)
  (hq : ∀ h', h'.IsKeyIter I d (i + 1) es.length ep → Heap.SameBut I s.heap h' → Q (some e.key) { s with heap := h' }) : wpAny (model prog w) A (pyNext (.ref I)) Q E s := by
 obtain ⟨o, ho, hc, hdat⟩ := id hit
 have hlt : i < es.length := getElem_some hx
 have hT : s.TypeIs (.ref I) "dict_keyiterator" := hit.typeIs
 have hpos : ¬ ((i : Int) < 0) := by lia
 have hxa : es.toArray[i]? = some e := by simpa using hx
 unfold pyNext
 refine wpAny_bind (wpAny_attempt (wpAny_callSpecial?_slot (name := Str.ofString "__next__") hT PySem.F.slot_dict_keyiterator_next
  (wpAny_call_entry PySem.F.slot_dict_keyiterator_next hT PySem.F.entry_dict_keyiterator_next ?_ (PySem.F.args_dict_keyiterator_next_1 _))))
 refine wpAny_bind (wpAny_pure (wpAny_bind (wpAny_bind ?_)))
 refine wpAny_bind (wpAny_typeNameOfWhole_keyiter hT (wpAny_pure ?_))
 refine wpAny_bind (wpAny_fieldsOf ho hdat ?_)
 show wpAny _ _ (if (Value.ref d == Value.none) = true then _ else _) _ _ s
 refine wpAny_ite_false rfl (wpAny_bind (wpAny_pure (wpAny_bind (wpAny_dictEntries hd rfl (wpAny_ite_split (fun h => absurd h (by simp)) fun _ => ?_)))))
 refine wpAny_bind (wpAny_pure (wpAny_bind (wpAny_dictEpoch hd rfl (wpAny_ite_split (fun h => absurd h (by simp)) fun _ => wpAny_pure ?_))))
 simp only [hpos, if_false, Int.toNat_natCast, hxa]
 refine wpAny_bind (wpAny_bind (wpAny_typeNameOfWhole_keyiter hT (wpAny_pure ?_)))
 refine wpAny_bind (wpAny_isOneOf_keyiter hT ?_)
 show wpAny _ _ (setField (.ref I) 1 (rawInt ((i : Int) + 1)) >>= _) _ _ s
 refine wpAny_bind (wpAny_setField ho hdat (by simp) ?_)
 have hit' : (s.heap.update I (Obj.mapFields (·.setIfInBounds 1 (rawInt ((i : Int) + 1))))).IsKeyIter I d (i + 1) es.length ep :=
  ⟨_, Heap.get?_update_self _ ho (Obj.isFreed_of_fields (Obj.data_mapFields hdat _)), (Obj.cls_mapFields ..).trans hc, by rw [Obj.data_mapFields hdat]; simp [rawInt]⟩
 refine wpAny_bind (wpAny_holding ?_)
 refine wpAny_bind (wpAny_isOneOf_keyiter (s := { s with heap := s.heap.update I (Obj.mapFields (·.setIfInBounds 1 (rawInt ((i : Int) + 1)))) }) hit'.typeIs ?_)
 show wpAny _ _ (pure e.key) _ _ _
 exact wpAny_pure (wpAny_pure ⟨_, rfl, wpAny_pure (hq _ hit' (Heap.SameBut.update ..))⟩)
theorem keyEnd {i ep : Nat} {Q : Option Value → Shared → Prop} (hh : A.handled = none) (hit : s.heap.IsKeyIter I d i es.length ep) (hd : DAt s.heap d es ep) (hx : es.length ≤ i)
  (hq : ∀ h', Heap.ExtBut I s.heap h' → Q none { s with heap := h' }) : wpAny (model prog w) A (pyNext (.ref I)) Q E s := by
 obtain ⟨o, ho, hc, hdat⟩ := id hit
 have hT : s.TypeIs (.ref I) "dict_keyiterator" := hit.typeIs
 have hpos : ¬ ((i : Int) < 0) := by lia
 have hxa : es.toArray[i]? = none := by simpa using hx
 unfold pyNext
 refine wpAny_bind (wpAny_attempt (wpAny_callSpecial?_slot (name := Str.ofString "__next__") hT PySem.F.slot_dict_keyiterator_next
  (wpAny_call_entry PySem.F.slot_dict_keyiterator_next hT PySem.F.entry_dict_keyiterator_next ?_ (PySem.F.args_dict_keyiterator_next_1 _))))
 refine wpAny_bind (wpAny_pure (wpAny_bind (wpAny_bind ?_)))
 refine wpAny_bind (wpAny_typeNameOfWhole_keyiter hT (wpAny_pure ?_))
 refine wpAny_bind (wpAny_fieldsOf ho hdat ?_)
 show wpAny _ _ (if (Value.ref d == Value.none) = true then _ else _) _ _ s
 refine wpAny_ite_false rfl (wpAny_bind (wpAny_pure (wpAny_bind (wpAny_dictEntries hd rfl (wpAny_ite_split (fun h => absurd h (by simp)) fun _ => ?_)))))
 refine wpAny_bind (wpAny_pure (wpAny_bind (wpAny_dictEpoch hd rfl (wpAny_ite_split (fun h => absurd h (by simp)) fun _ => wpAny_pure ?_))))
 simp only [hpos, if_false, Int.toNat_natCast, hxa]
 refine wpAny_bind (wpAny_bind (wpAny_typeNameOfWhole_keyiter hT (wpAny_pure ?_)))
 show wpAny _ _ (setField (.ref I) 0 .none >>= _) _ _ s
 refine wpAny_bind (wpAny_setField ho hdat (by simp) ?_)
 show wpAny _ _ (newExc (.type "StopIteration") [] >>= _) _ _ _
 refine wpAny_bind ?_
 simp only [newExc, newTuple]
 refine wpAny_bind (wpAny_newObj_type ?_ (by size_fits))
 refine wpAny_bind (m := firstArgMember _ _) (wpAny_of_eq (a := Value.none) (by first | rfl | (simp only [firstArgMember]; rfl)) ?_)
 refine wpAny_newObj_type ?_ (by size_fits)
 simp only [raiseNew]
 refine wpAny_bind (wpAny_handled ?_)
 rw [show A.in1.handled = none from hh]
 refine wpAny_bind (wpAny_pure (wpAny_throw ?_))
 refine wpAny_bind (wpAny_isInstance (T := "StopIteration") (b := true) ⟨_, Heap.get?_push_size _ rfl, rfl⟩ isSubtype_stop ?_)
 exact wpAny_pure (hq _ (((Heap.SameBut.update ..).extBut.push _).push _))
theorem dictWalks (hh : A.handled = none) (hne : d ≠ I) (ep : Nat) :
  Walks prog w A I [I, d] [I] es.length (fun i v => ∃ e, es[i]? = some e ∧ v = e.key) (fun i h => h.IsKeyIter I d i es.length ep ∧ DAt h d es ep) where
 sub := fun b hb => by simp at hb; simp [hb]
 frame := fun _ _ _ st hk => ⟨let ⟨o, ho, x⟩ := st.1; ⟨o, hk I (by simp) o ho, x⟩, hk d (by simp) _ st.2⟩
 item := fun i s Q E hi st hQ => by
  have hx : es[i]? = some es[i] := List.getElem?_eq_getElem hi
  refine keyNext st.1 st.2 hx fun h' hit' hs' => ?_
  exact hQ _ h' s.toks ⟨_, hx, rfl⟩ ⟨hit', hs'.extBut d _ hne st.2⟩ fun b o hb e => hs'.extBut b o (fun h => hb (by simp [h])) e
 done := fun s Q E st hQ => keyEnd hh st.1 st.2 (Nat.le_refl _) fun h' he' => hQ h' s.toks fun b o hb e => he' b o (fun h => hb (by simp [h])) e
 self := fun _ _ _ _ st hQ => wpAny_pyIter_keyiter st.1 hQ
theorem dictSrc (lo : (d == sysModules) = false) (ep : Nat) : KdlSrc prog w "dict" d d es.length (fun i v => ∃ e, es[i]? = some e ∧ v = e.key) (fun h => DAt h d es ep) where
 type := fun s hm => ⟨_, hm, rfl⟩
 there := fun _ hm => ⟨Heap.lt_size hm, Heap.lt_size hm⟩
 keep := fun _ _ hm hk => hk d (.inl rfl) _ hm
 notList := by decide
 notTuple := by decide
 hint := fun _ _ s _ hm hq => kdl_hint_dict ⟨_, hm, rfl⟩ hq
 iter := fun _ s hh hm => ⟨_, _, (fun _ _ hq => keyIter lo hm hq), dictWalks hh (Nat.ne_of_lt (Heap.lt_size hm)) ep, ⟨⟨_, Heap.get?_push_size _ rfl, rfl, rfl⟩, push_keeps _ _ _ _ hm⟩⟩
end
section
variable {c : Cx} {A : Around} {E : Value → Shared → Prop} {s : Shared} {ι : Own} {S : List Addr} {μ : Mem} {Q : Value → Shared → Prop} {d : Addr} {es : List (V × V)}
theorem RelE.keys {prog : Program} {w : World} {h : Heap} : ∀ {des : List DictEntry} {kvs : List (V × V)}, RelE prog w ι S h des kvs → RelVs ι S h (des.map (·.key)) (kvs.map (·.1))
 | _, _, .nil => .nil
 | _, _, .cons a _ _ _ r => .cons a (RelE.keys r)
theorem list_dict (n : Nat) (hh : A.handled = none) (hsys : (c.base.get? sysModules).isSome = true) (R : Rel c ι S μ s) (hn : ι[n]? = some (d, none)) (hm : μ[n]? = some (.dict es)) (hz : es.length < limit)
  (hq : PostV c ι S s.heap (μ ++ [.lst (es.map (·.1))]) (.ref μ.length) Q) : wpAny (model c.prog c.w) A (call (.type "list") [.ref d]) Q E s := by
 refine R.dictO hn hm fun _ ho re hnd => ?_
 rename_i des
 obtain ⟨ep, e⟩ := ho
 have hl := re.length
 have hsz : des.length ≤ sizeLine := by have := limit_lt; lia
 refine kdl_call (dictSrc (es := des) (sysmod R hsys (mem_owned hn _ (.head _))) ep) hh e hsz fun h' tk acc' c' k hD hacc => ?_
 have hk : acc'.toList = des.map (·.key) := by
  apply List.ext_getElem?
  intro j
  have h1 : acc'.size = des.length := hacc.1
  by_cases hj : j < des.length
  ·have hj' : j < acc'.size := by lia
   obtain ⟨e', he', hv⟩ := hacc.2 j acc'[j] (by simp [hj'])
   rw [List.getElem?_map, he', Array.getElem?_toList, Array.getElem?_eq_getElem hj', hv]; rfl
  ·rw [List.getElem?_eq_none (by simp; lia), List.getElem?_eq_none (by simp; exact Nat.le_of_not_lt (by assumption))]
 exact hq.freshRef R k (get_size _) (vs := acc'.toList) ⟨c', by simpa using hD⟩ (hk ▸ RelE.keys re)
end
end Mine
set_option tactic.hygienic true
set_option tactic.hygienic false
set_option maxRecDepth 100000
namespace Mine
open PySem.W
section
variable {prog : Program} {w : World} {A : Around} {E : Value → Shared → Prop} {s : Shared} {T : String} {r d : Addr} {n : Nat} {P : Nat → Value → Prop} {OK : Heap → Prop}
theorem collect_code {Rs : Result → Shared → Prop} (K : KdlSrc prog w T r d n P OK) (hh : A.handled = none) (hok : OK s.heap) (hn : n ≤ sizeLine)
  (hQ : ∀ h' tk acc' c', (∀ b o, s.heap.get? b = some o → h'.get? b = some o) → h'.get? s.heap.objs.size = some { cls := .type "list", dict := none, data := .seq acc' c', slots := #[] } → ItemsOf P acc' n → Rs (.ok (.ret (.ref s.heap.objs.size))) { s with heap := h', toks := tk }) :
  codeAny (model prog w) A (.builtin "proto.collect" ⟨[.ref r], []⟩) Rs s := by
 refine codeAny_builtin F.entry_proto_collect ?_
 rw [Around.under_plainId F.plain_proto_collect _]
 show wpAny _ A.in1 (newList [] >>= fun l => again (.builtin "list.__iadd__" ⟨[l, .ref r], []⟩)) _ _ s
 refine wpAny_bind (wpAny_newObj_type ?_)
 refine wpAny_pure ⟨plainId_quiet F.plain_list_iadd _, codeAny_builtin F.entry_list_iadd ?_⟩
 rw [Around.under_plainId F.plain_list_iadd _]
 have hS : (s.heap.push { cls := .type "list", data := .seq ([] : List Value).toArray }).get? s.heap.objs.size = some { cls := .type "list", data := .seq ([] : List Value).toArray } := Heap.get?_push_size _ rfl
 have hlt := K.there _ hok
 show wpAny _ A.in1 (Builtin.List.listExtendWith (.ref s.heap.objs.size) (.ref r) (.ref s.heap.objs.size)) _ _ _
 exact kdl_extend (s := { s with heap := s.heap.push { cls := .type "list", data := .seq ([] : List Value).toArray } }) (R := Rs) K hh (K.keep _ _ hok fun b _ o e => push_keeps _ _ b o e) _ (Nat.ne_of_gt hlt.1) (Nat.ne_of_gt hlt.2) _ 0 hS
  (fun h' tk acc' c' k hD hacc => hQ h' tk acc' c' (fun b o e => k b o (Nat.ne_of_lt (Heap.lt_size e)) (push_keeps _ _ b o e)) hD hacc) hn
theorem collect_src {Q : List Value → Shared → Prop} (K : KdlSrc prog w T r d n P OK) (hh : A.handled = none) (hok : OK s.heap) (hn : n ≤ sizeLine)
  (hQ : ∀ h' tk acc, (∀ b o, s.heap.get? b = some o → h'.get? b = some o) → ItemsOf P acc n → Q acc.toList { s with heap := h', toks := tk }) : wpAny (model prog w) A (collect (.ref r)) Q E s := by
 unfold collect
 refine wpAny_bind (wpAny_runValue (collect_code K hh hok hn fun h' tk acc' c' k hD hacc => ?_))
 show wpAny _ _ (load s.heap.objs.size >>= _) _ _ _
 exact wpAny_bind (wpAny_load hD (wpAny_pure (hQ h' tk acc' k hacc)))
theorem sorted_src {ns : List Int} {Q : Value → Shared → Prop} (K : KdlSrc prog w T r d n P OK) (hh : A.handled = none) (hok : OK s.heap) (hn : n < 64)
  (hP : ∀ acc, ItemsOf P acc n → PyProof.Rows.IntsAre acc.toList ns)
  (hQ : ∀ h' tk b out ns', (∀ b o, s.heap.get? b = some o → h'.get? b = some o) → s.heap.get? b = none → PL h' b out → PyProof.Rows.IntsAre out ns' → ns'.Perm ns → ns'.Pairwise (· ≤ ·) → Q (.ref b) { s with heap := h', toks := tk }) :
  wpAny (model prog w) A (call (.builtin "sorted") [.ref r]) Q E s := by
 refine Calls.call_function_entry PyProof.Rows.kind_sorted PyProof.Rows.plain_sorted PyProof.Rows.entry_sorted (PyProof.Rows.args_sorted1 _) ?_
 unfold Builtin.«sorted»
 refine wpAny_bind (m := checkCount "sorted" 1 1 _) (wpAny_pure ?_)
 refine wpAny_bind (collect_src K (by simpa using hh) hok (by have := sizeLine_val; exact Nat.le_trans (Nat.le_of_lt (by assumption)) (by decide)) fun h₁ tk acc k₁ hacc => ?_)
 have hsz : acc.size = n := hacc.1
 refine wpAny_bind (wpAny_newList ?_ (by simp; have := sizeLine_val; lia))
 have hoL : (h₁.push { cls := .type "list", data := .seq acc.toList.toArray }).get? h₁.objs.size = some (PyProof.Rows.seqObj "list" acc.toList.toArray 0) := Heap.get?_push_size _ rfl
 refine wpAny_bind (wpAny_holding (wpAny_call_entry PyProof.Rows.slot_list_sort ⟨_, hoL, rfl⟩ PyProof.Rows.entry_list_sort (PyProof.Rows.list_sort_tree hoL (hP acc hacc) (by simp; lia) fun out ns' a1 a2 a3 => ⟨_, rfl, ?_⟩) (PyProof.Rows.args_list_sort _)))
 refine wpAny_pure ⟨_, rfl, ?_⟩
 have e2 := PyProof.Rows.get?_update_seq hoL fun _ => #[]
 have e3 := Heap.get?_push_of_some (PyProof.Rows.seqObj "list" #[] 0) (Heap.get?_push_of_some (PyProof.Rows.seqObj "tuple" acc.toList.toArray 0) e2)
 have e4 := PyProof.Rows.get?_update_seq e3 fun _ => out
 have fr : s.heap.get? h₁.objs.size = none := none_of_keeps k₁ _ (get_size h₁)
 refine hQ _ tk h₁.objs.size out.toList ns' (fun b o e => ?_) fr ⟨_, by rw [Array.toArray_toList]; exact e4⟩ a1 a2 a3
 have hb : h₁.objs.size ≠ b := fun z => by rw [z] at fr; rw [fr] at e; cases e
 unfold PyProof.Rows.sortedHeap
 rw [Heap.get?_update_other _ _ hb]
 refine Heap.get?_push_of_some _ (Heap.get?_push_of_some _ ?_)
 rw [Heap.get?_update_other _ _ hb]
 exact push_keeps _ _ b o (k₁ b o e)
end
end Mine
set_option tactic.hygienic true
set_option maxRecDepth 100000
namespace Mine
open PySem.W
namespace F
theorem slot_seti_next : Slot "set_iterator" "__next__" "set_iterator.__next__" :=
 .of (owner := "set_iterator") (n := "__next__") (by rw [typeLookup_type, builtinLookup_eq_fast]; kernel_rfl) (by decide +kernel) (by decide +kernel) (by decide +kernel)
  (by first | exact .inl (by decide +kernel) | exact .inr (by decide +kernel)) (by rw [isSubtype_type]; kernel_rfl)
theorem slot_seti_iter : Slot "set_iterator" "__iter__" "set_iterator.__iter__" :=
 .of (owner := "set_iterator") (n := "__iter__") (by rw [typeLookup_type, builtinLookup_eq_fast]; kernel_rfl) (by decide +kernel) (by decide +kernel) (by decide +kernel)
  (by first | exact .inl (by decide +kernel) | exact .inr (by decide +kernel)) (by rw [isSubtype_type]; kernel_rfl)
theorem entry_seti_next : entryFor table "set_iterator.__next__" = some Builtin.«set_iterator.__next__» := entryFor_of_tree (by kernel_rfl)
theorem owner_seti : Manifest.owners.lookup (String.ofList ['r', 'o', 't', 'a', 'r', 'e', 't', 'i', '_', 't', 'e', 's'].reverse) = some Manifest.sig_set_iterator := by kernel_rfl
theorem args_seti_next (a : Value) : argsOk "set_iterator.__next__" ⟨[a], []⟩ := by
 unfold argsOk; rw [signature?_of (id := "set_iterator.__next__") (n := ['_', '_', 't', 'x', 'e', 'n', '_', '_']) (o := ['r', 'o', 't', 'a', 'r', 'e', 't', 'i', '_', 't', 'e', 's']) (by kernel_rfl) owner_seti]; kernel_rfl
theorem entry_set_iter : entryFor table "set.__iter__" = some Builtin.«frozenset.__iter__» :=
 entryFor_alias (id' := "frozenset.__iter__") (by kernel_rfl) (by decide +kernel) (by decide +kernel) (by kernel_rfl)
end F
noncomputable def SAt (h : Heap) (d : Addr) (es : Array (Int × Value)) (ep : Nat) (t : SetTable) : Prop := h.get? d = some { cls := .type "set", dict := none, data := .set es ep t, slots := #[] }
noncomputable def tabOf (led : Bool) (ps : List (Nat × Tok)) : SetTable := { mask := 7, place := (ps.map (·.1)).toArray, dummies := #[], finger := 0, led, moves := 0, plain := true }
noncomputable def esOf (ps : List (Nat × Tok)) : Array (Int × Value) := (ps.map fun p => ((p.1 : Int), Value.int p.1 p.2)).toArray
inductive OkPs : List (Nat × Tok) → Prop
 | zero : OkPs []
 | one {p : Nat × Tok} : p.1 < 8 → OkPs [p]
 | two {p q : Nat × Tok} : p.1 < q.1 → q.1 < 8 → OkPs [p, q]
noncomputable def slotAt (b : Bool) (ps : List (Nat × Tok)) : Nat → Nat
 | 0 => 0
 | i + 1 => if b then 0 else match ps[i]? with | some p => p.1 + 1 | none => 0
noncomputable def orderOf (b : Bool) (f : Nat → Nat) (ps : List (Nat × Tok)) : List (Int × Value) := (if b then pickOrder f (esOf ps) else esOf ps).toList
theorem below_zero {ps : List (Nat × Tok)} (ok : OkPs ps) : SetTable.below (ps.map (·.1)).toArray 0 = 0 := by
 cases ok <;> simp [SetTable.below, SetTable.below.go]
theorem below_succ {ps : List (Nat × Tok)} {p : Nat × Tok} {i : Nat} (ok : OkPs ps) (e : ps[i]? = some p) : SetTable.below (ps.map (·.1)).toArray (p.1 + 1) = i + 1 := by
 cases ok with
 | zero => simp at e
 | one h =>
  cases i with
  | zero => simp at e; subst e; simp [SetTable.below, SetTable.below.go]
  | succ i => simp at e
 | two h1 h2 =>
  rename_i a b
  cases i with
  | zero =>
   simp at e; subst e
   have : ¬ b.1 < a.1 + 1 := by lia
   simp [SetTable.below, SetTable.below.go, this]
  | succ i =>
   cases i with
   | zero => simp at e; subst e; simp [SetTable.below, SetTable.below.go]
   | succ i => simp at e
theorem below_slot {ps : List (Nat × Tok)} {i : Nat} (ok : OkPs ps) (hi : i ≤ ps.length) : SetTable.below (ps.map (·.1)).toArray (slotAt false ps i) = i := by
 cases i with
 | zero => exact below_zero ok
 | succ i =>
  have : ps[i]? = some ps[i] := List.getElem?_eq_getElem (by solve_by_elim (maxDepth := 2) only [*, Nat.le_of_lt, Nat.ne_of_lt, Nat.ne_of_gt, Nat.lt_of_not_le, Nat.le_of_not_lt])
  simp only [slotAt, Bool.false_eq_true, if_false, this]
  exact below_succ ok this
section
variable {prog : Program} {w : World} {A : Around} {E : Value → Shared → Prop} {s : Shared} {d I : Addr} {ps : List (Nat × Tok)} {ep : Nat}
theorem fits_of (led : Bool) (ok : OkPs ps) : (tabOf led ps).fits (esOf ps).size = true := by
 cases ok <;> simp [tabOf, esOf, SetTable.fits, SetTable.fill]
theorem setNext_V (ok : OkPs ps) (hS : SAt s.heap d (esOf ps) ep (tabOf (!w.params.followText "set-order") ps)) {i : Nat} (hi : i ≤ ps.length) {Q : Option (Value × Nat) → Shared → Prop}
  (hq : Q ((orderOf (w.params.followText "set-order") (w.params.setOrder d ep) ps)[i]?.map fun e => (e.2, slotAt (w.params.followText "set-order") ps (i + 1))) s) :
  wpAny (model prog w) A (setNext d (slotAt (w.params.followText "set-order") ps i) i ep) Q E s := by
 have hf := fits_of (!w.params.followText "set-order") ok
 unfold setNext
 refine wpAny_bind (wpAny_setState_of hS rfl hf ?_)
 unfold setsByText
 refine wpAny_bind (wpAny_bind (wpAny_askSetting (wpAny_pure ?_)))
 show wpAny _ _ (if w.params.followText "set-order" = true then _ else _) _ _ _
 cases hb : w.params.followText "set-order" with
 | true =>
  rw [hb] at hq hS hf
  rw [if_pos rfl]
  rw [if_neg (by simp)]
  refine wpAny_bind (m := setWalk d) ?_
  unfold setWalk
  refine wpAny_bind (wpAny_setState_of hS rfl hf ?_)
  unfold setsByText
  refine wpAny_bind (wpAny_bind (wpAny_askSetting (wpAny_pure ?_)))
  show wpAny _ _ (if w.params.followText "set-order" = true then _ else _) _ _ _
  rw [if_pos hb]
  refine wpAny_bind (wpAny_askSetting (wpAny_pure (wpAny_pure ?_)))
  have h0 : ∀ j, slotAt true ps j = 0 := fun j => by cases j <;> rfl
  rw [h0] at hq ⊢
  have hq' : Q (Option.map (fun e => (e.2, 0)) (pickOrder (w.params.setOrder d ep) (esOf ps))[i]?) s := by simpa [orderOf] using hq
  exact hq'
 | false =>
  rw [hb] at hq hS hf
  rw [if_neg (by decide)]
  refine wpAny_ite_split (fun z => absurd z (show ¬ (false && _) = true from Bool.false_ne_true)) fun _ => ?_
  refine wpAny_bind (wpAny_of_eq (a := ()) rfl ?_)
  show wpAny _ _ (pure _) _ _ _
  refine wpAny_pure ?_
  have hbs := below_slot ok hi
  show Q (match (esOf ps)[SetTable.below (ps.map (·.1)).toArray (slotAt false ps i)]?, (ps.map (·.1)).toArray[SetTable.below (ps.map (·.1)).toArray (slotAt false ps i)]? with
   | some (_, x), some j => some (x, j + 1)
   | _, _ => none) s
  rw [hbs]
  by_cases hlt : i < ps.length
  ·have h1 : ps[i]? = some ps[i] := List.getElem?_eq_getElem hlt
   simpa [orderOf, esOf, slotAt, h1] using hq
  ·have h1 : ps[i]? = none := List.getElem?_eq_none (by exact Nat.le_of_not_lt (by assumption))
   simpa [orderOf, esOf, h1] using hq
noncomputable def SIt (b : Bool) (ps : List (Nat × Tok)) (h : Heap) (I d : Addr) (i ep : Nat) : Prop :=
 ∃ o, h.get? I = some o ∧ o.cls = .type "set_iterator" ∧ o.data = .fields #[.int (slotAt b ps i) 0, .int i 0, .ref d, .int ps.length 0, .int ep 0]
theorem esOf_size (ps : List (Nat × Tok)) : (esOf ps).size = ps.length := by simp [esOf]
theorem set_hint {Q : Bool → Shared → Prop} (hT : s.TypeIs (.ref d) "set") (h : Q false s) : wpAny (model prog w) A (Builtin.List.listLengthHint (.ref d)) Q E s := by
 unfold Builtin.List.listLengthHint
 refine wpAny_bind (wpAny_specialOf hT PySem.F.slot_set_len.lookup ?_)
 generalize hid : ("set.__len__" : String) = id0
 wp_delta
 rw [show splitId id0 = some ("set", "__len__") from by subst hid; decide +kernel]
 subst hid
 refine wpAny_bind (wpAny_isInstance (T := "set") (b := true) hT (by rw [isSubtype_type]; kernel_rfl) ?_)
 refine wpAny_ite_split (fun hab => absurd hab (by decide)) (fun _ => ?_)
 refine wpAny_ite_split (fun _ => ?_) (fun hab => absurd (by decide +kernel) hab)
 refine wpAny_bind (wpAny_typeOf hT ?_)
 exact wpAny_pure h
theorem set_iter (ok : OkPs ps) (hS : SAt s.heap d (esOf ps) ep (tabOf (!w.params.followText "set-order") ps)) {Q : Value → Shared → Prop}
  (hq : Q (.ref s.heap.objs.size) { s with heap := s.heap.push { cls := .type "set_iterator", data := .fields #[.int 0 0, .int 0 0, .ref d, .int ps.length 0, .int ep 0] } }) : wpAny (model prog w) A (pyIter (.ref d)) Q E s := by
 have hT : s.TypeIs (.ref d) "set" := ⟨_, hS, rfl⟩
 have hf := fits_of (!w.params.followText "set-order") ok
 refine wpAny_pyIter_slot hT PySem.F.slot_set_iter (wpAny_call_entry PySem.F.slot_set_iter hT F.entry_set_iter ?_ (PySem.F.args_set_iter_1 _))
 unfold Builtin.«frozenset.__iter__»
 show wpAny _ _ (Builtin.Frozenset.sizeOf d >>= _) _ _ _
 unfold Builtin.Frozenset.sizeOf setEntries
 refine wpAny_bind (wpAny_bind (wpAny_bind (wpAny_setState_of hS rfl hf (wpAny_pure (wpAny_pure ?_)))))
 unfold setDrawn setsByText
 refine wpAny_bind (wpAny_bind (wpAny_setState_of hS rfl hf (wpAny_bind (wpAny_bind (wpAny_askSetting (wpAny_pure ?_))))))
 refine wpAny_pure ?_
 refine wpAny_ite_split (fun z => absurd z (fun z => ?_)) fun _ => ?_
 ·have : (false = true) := by
   rw [Bool.and_eq_true] at z
   exact z.2
  cases this
 refine wpAny_bind (wpAny_pure ?_)
 unfold setEpoch
 refine wpAny_bind (wpAny_bind (wpAny_setState_of hS rfl hf (wpAny_pure ?_)))
 refine wpAny_bind (wpAny_newObj_type ?_)
 have hsz : ((esOf ps).size : Int) = (ps.length : Int) := by rw [esOf_size]
 exact wpAny_pure ⟨_, rfl, "set_iterator", _, ⟨_, Heap.get?_push_size _ rfl, rfl⟩, F.slot_seti_next.lookup, by simpa [rawInt, hsz] using hq⟩
theorem set_next (ok : OkPs ps) (hS : SAt s.heap d (esOf ps) ep (tabOf (!w.params.followText "set-order") ps)) {i : Nat} {e : Int × Value} (hit : SIt (w.params.followText "set-order") ps s.heap I d i ep) (hi : i < ps.length)
  (hx : (orderOf (w.params.followText "set-order") (w.params.setOrder d ep) ps)[i]? = some e) {Q : Option Value → Shared → Prop} (hq : ∀ h', SIt (w.params.followText "set-order") ps h' I d (i + 1) ep → Heap.SameBut I s.heap h' → Q (some e.2) { s with heap := h' }) :
  wpAny (model prog w) A (pyNext (.ref I)) Q E s := by
 obtain ⟨o, ho, hc, hdat⟩ := id hit
 have hT : s.TypeIs (.ref I) "set_iterator" := ⟨_, ho, hc⟩
 have hf := fits_of (!w.params.followText "set-order") ok
 unfold pyNext
 refine wpAny_bind (wpAny_attempt (wpAny_callSpecial?_slot (name := Str.ofString "__next__") hT F.slot_seti_next (wpAny_call_entry F.slot_seti_next hT F.entry_seti_next ?_ (F.args_seti_next _))))
 unfold Builtin.«set_iterator.__next__»
 show wpAny _ _ (fieldsOf (.ref I) >>= _) _ _ _
 refine wpAny_bind (wpAny_fieldsOf ho hdat ?_)
 show wpAny _ _ (setEntries d >>= _) _ _ _
 unfold setEntries
 refine wpAny_bind (wpAny_bind (wpAny_setState_of hS rfl hf (wpAny_pure ?_)))
 rw [if_neg (by rw [esOf_size]; simp)]
 show wpAny _ _ (setNext d (Int.toNat ((slotAt _ ps i : Nat) : Int)) (Int.toNat (i : Int)) (Int.toNat (ep : Int)) >>= _) _ _ _
 rw [Int.toNat_natCast, Int.toNat_natCast, Int.toNat_natCast]
 refine wpAny_bind (setNext_V ok hS (Nat.le_of_lt hi) ?_)
 rw [hx]
 show wpAny _ _ (setField (.ref I) 0 (rawInt _) >>= _) _ _ _
 refine wpAny_bind (wpAny_setField ho hdat (by simp) ?_)
 have ho1 := Heap.get?_update_self (Obj.mapFields (·.setIfInBounds 0 (rawInt (slotAt (w.params.followText "set-order") ps (i + 1) : Nat)))) ho (Obj.isFreed_of_fields (Obj.data_mapFields hdat _))
 have hd1 := Obj.data_mapFields hdat (·.setIfInBounds 0 (rawInt (slotAt (w.params.followText "set-order") ps (i + 1) : Nat)))
 show wpAny _ _ (setField (.ref I) 1 (rawInt ((i : Int) + 1)) >>= _) _ _ _
 refine wpAny_bind (wpAny_setField ho1 hd1 (by simp) ?_)
 have ho2 := Heap.get?_update_self (Obj.mapFields (·.setIfInBounds 1 (rawInt ((i : Int) + 1)))) ho1 (Obj.isFreed_of_fields (Obj.data_mapFields hd1 _))
 have hd2 := Obj.data_mapFields hd1 (·.setIfInBounds 1 (rawInt ((i : Int) + 1)))
 refine wpAny_pure ⟨_, rfl, wpAny_pure (hq _ ⟨_, ho2, (Obj.cls_mapFields ..).trans ((Obj.cls_mapFields ..).trans hc), ?_⟩ ((Heap.SameBut.update ..).trans (Heap.SameBut.update ..)))⟩
 rw [hd2]; simp [rawInt]
theorem set_end (ok : OkPs ps) (hh : A.handled = none) (hS : SAt s.heap d (esOf ps) ep (tabOf (!w.params.followText "set-order") ps)) (hit : SIt (w.params.followText "set-order") ps s.heap I d ps.length ep)
  (hx : (orderOf (w.params.followText "set-order") (w.params.setOrder d ep) ps)[ps.length]? = none) {Q : Option Value → Shared → Prop} (hq : ∀ h', Heap.ExtBut I s.heap h' → Q none { s with heap := h' }) :
  wpAny (model prog w) A (pyNext (.ref I)) Q E s := by
 obtain ⟨o, ho, hc, hdat⟩ := id hit
 have hT : s.TypeIs (.ref I) "set_iterator" := ⟨_, ho, hc⟩
 have hf := fits_of (!w.params.followText "set-order") ok
 unfold pyNext
 refine wpAny_bind (wpAny_attempt (wpAny_callSpecial?_slot (name := Str.ofString "__next__") hT F.slot_seti_next (wpAny_call_entry F.slot_seti_next hT F.entry_seti_next ?_ (F.args_seti_next _))))
 unfold Builtin.«set_iterator.__next__»
 show wpAny _ _ (fieldsOf (.ref I) >>= _) _ _ _
 refine wpAny_bind (wpAny_fieldsOf ho hdat ?_)
 show wpAny _ _ (setEntries d >>= _) _ _ _
 unfold setEntries
 refine wpAny_bind (wpAny_bind (wpAny_setState_of hS rfl hf (wpAny_pure ?_)))
 rw [if_neg (by rw [esOf_size]; simp)]
 show wpAny _ _ (setNext d (Int.toNat ((slotAt _ ps ps.length : Nat) : Int)) (Int.toNat (ps.length : Int)) (Int.toNat (ep : Int)) >>= _) _ _ _
 rw [Int.toNat_natCast, Int.toNat_natCast, Int.toNat_natCast]
 refine wpAny_bind (setNext_V ok hS (Nat.le_refl _) ?_)
 rw [hx]
 show wpAny _ _ (setField (.ref I) 2 .none >>= _) _ _ _
 refine wpAny_bind (wpAny_setField ho hdat (by simp) ?_)
 show wpAny _ _ (newExc (.type "StopIteration") [] >>= _) _ _ _
 refine wpAny_bind ?_
 simp only [newExc, newTuple]
 refine wpAny_bind (wpAny_newObj_type ?_ (by size_fits))
 refine wpAny_bind (m := firstArgMember _ _) (wpAny_of_eq (a := Value.none) (by first | rfl | (simp only [firstArgMember]; rfl)) ?_)
 refine wpAny_newObj_type ?_ (by size_fits)
 simp only [raiseNew]
 refine wpAny_bind (wpAny_handled ?_)
 rw [show A.in1.handled = none from hh]
 refine wpAny_bind (wpAny_pure (wpAny_throw ?_))
 refine wpAny_bind (wpAny_isInstance (T := "StopIteration") (b := true) ⟨_, Heap.get?_push_size _ rfl, rfl⟩ isSubtype_stop ?_)
 exact wpAny_pure (hq _ (((Heap.SameBut.update ..).extBut.push _).push _))
end
end Mine
set_option maxRecDepth 100000
namespace Mine
open PySem.W
namespace F
theorem entry_seti_iter : entryFor table "set_iterator.__iter__" = some Builtin.«dict_keyiterator.__iter__» :=
 entryFor_alias (id' := "dict_keyiterator.__iter__") (by kernel_rfl) (by first | rfl | decide +kernel) (by decide +kernel) (by kernel_rfl)
theorem args_seti_iter (a : Value) : argsOk "set_iterator.__iter__" ⟨[a], []⟩ := by
 unfold argsOk; rw [signature?_of (id := "set_iterator.__iter__") (n := ['_', '_', 'r', 'e', 't', 'i', '_', '_']) (o := ['r', 'o', 't', 'a', 'r', 'e', 't', 'i', '_', 't', 'e', 's']) (by kernel_rfl) owner_seti]; kernel_rfl
end F
theorem pick_perm {α : Type} (f : Nat → Nat) (a b : α) : pickOrder f #[] = (#[] : Array α) ∧ pickOrder f #[a] = #[a] ∧ (pickOrder f #[a, b] = #[a, b] ∨ pickOrder f #[a, b] = #[b, a]) := by
 refine ⟨rfl, ?_, ?_⟩
 ·simp [pickOrder, pickOrder.go, Nat.mod_one]
 ·have h : f 0 % 2 = 0 ∨ f 0 % 2 = 1 := by lia
  rcases h with h | h
  ·left; simp [pickOrder, pickOrder.go, h, Nat.mod_one]
  ·right; simp [pickOrder, pickOrder.go, h, Nat.mod_one]
theorem order_perm {b : Bool} {f : Nat → Nat} {ps : List (Nat × Tok)} (ok : OkPs ps) : (orderOf b f ps).Perm (esOf ps).toList := by
 unfold orderOf
 cases b with
 | false => exact List.Perm.refl _
 | true =>
  rw [if_pos rfl]
  cases ok with
  | zero => exact List.Perm.refl _
  | one h =>
   rename_i p
   show (pickOrder f #[((p.1 : Int), Value.int p.1 p.2)]).toList.Perm _
   rw [(pick_perm f ((p.1 : Int), Value.int p.1 p.2) ((p.1 : Int), Value.int p.1 p.2)).2.1]
   exact List.Perm.refl _
  | two h1 h2 =>
   rename_i p q
   show (pickOrder f #[((p.1 : Int), Value.int p.1 p.2), ((q.1 : Int), Value.int q.1 q.2)]).toList.Perm _
   rcases (pick_perm f ((p.1 : Int), Value.int p.1 p.2) ((q.1 : Int), Value.int q.1 q.2)).2.2 with e | e
   ·rw [e]; exact List.Perm.refl _
   ·rw [e]; exact List.Perm.swap ..
section
variable {prog : Program} {w : World} {A : Around} {E : Value → Shared → Prop} {s : Shared} {d I : Addr} {ps : List (Nat × Tok)} {ep : Nat}
theorem setiIter {Q : Value → Shared → Prop} (hT : s.TypeIs (.ref I) "set_iterator") (h : Q (.ref I) s) : wpAny (model prog w) A (pyIter (.ref I)) Q E s := by
 refine wpAny_pyIter_slot hT F.slot_seti_iter (wpAny_call_entry F.slot_seti_iter hT F.entry_seti_iter ?_ (F.args_seti_iter _))
 show wpAny _ _ (ret (.ref I)) _ _ s
 exact wpAny_pure ⟨_, rfl, "set_iterator", _, hT, F.slot_seti_next.lookup, h⟩
theorem setSrc (ok : OkPs ps) : KdlSrc prog w "set" d d ps.length (fun i v => ∃ e, (orderOf (w.params.followText "set-order") (w.params.setOrder d ep) ps)[i]? = some e ∧ v = e.2)
  (fun h => SAt h d (esOf ps) ep (tabOf (!w.params.followText "set-order") ps)) where
 type := fun s hm => ⟨_, hm, rfl⟩
 there := fun _ hm => ⟨Heap.lt_size hm, Heap.lt_size hm⟩
 keep := fun _ _ hm hk => hk d (.inl rfl) _ hm
 notList := by decide
 notTuple := by decide
 hint := fun _ _ s _ hm hq => set_hint ⟨_, hm, rfl⟩ hq
 iter := fun A s hh hm => by
  have hlen : (orderOf (w.params.followText "set-order") (w.params.setOrder d ep) ps).length = ps.length := by rw [(order_perm ok).length_eq, Array.length_toList, esOf_size]
  have hne : d ≠ s.heap.objs.size := Nat.ne_of_lt (Heap.lt_size hm)
  refine ⟨_, fun i h => SIt (w.params.followText "set-order") ps h s.heap.objs.size d i ep ∧ SAt h d (esOf ps) ep (tabOf (!w.params.followText "set-order") ps), (fun _ _ hq => set_iter ok hm hq), ?_, ⟨_, Heap.get?_push_size _ rfl, rfl, by cases ps <;> rfl⟩, push_keeps _ _ _ _ hm⟩
  exact {
   sub := fun b hb => by simp at hb; simp [hb]
   frame := fun _ _ _ st hk => ⟨let ⟨o, ho, x⟩ := st.1; ⟨o, hk _ (by simp) o ho, x⟩, hk d (by simp) _ st.2⟩
   item := fun i s' Q E hi st hQ => by
    obtain ⟨e, he⟩ : ∃ e, (orderOf (w.params.followText "set-order") (w.params.setOrder d ep) ps)[i]? = some e := ⟨_, List.getElem?_eq_getElem (by lia)⟩
    refine set_next ok st.2 st.1 hi he fun h' hit' hs' => ?_
    exact hQ _ h' s'.toks ⟨_, he, rfl⟩ ⟨hit', hs'.extBut d _ hne st.2⟩ fun b o hb e => hs'.extBut b o (fun h => hb (by simp [h])) e
   done := fun s' Q E st hQ => set_end ok hh st.2 st.1 (List.getElem?_eq_none (by exact Nat.le_of_eq (by assumption))) fun h' he' => hQ h' s'.toks fun b o hb e => he' b o (fun h => hb (by simp [h])) e
   self := fun _ _ _ _ st hQ => setiIter (let ⟨o, ho, hc, _⟩ := st.1; ⟨o, ho, hc⟩) hQ }
end
end Mine
set_option maxRecDepth 100000
namespace Mine
open PySem.W
noncomputable def addPs (ps : List (Nat × Tok)) (p : Nat × Tok) : List (Nat × Tok) := match ps with
 | [] => [p]
 | q :: r => if q.1 = p.1 then q :: r else if p.1 < q.1 then p :: q :: r else q :: addPs r p
theorem free_0 : ∀ (led : Bool) (k : Fin 8), (tabOf led []).freeSlot (hashInt (k.val : Int)) = some (k.val, false) := by decide +kernel
theorem put_0 : ∀ (led : Bool) (k : Fin 8), (tabOf led []).put k.val = ({ tabOf led [] with place := #[k.val] }, 0) := by decide +kernel
theorem free_1 : ∀ (led : Bool) (p k : Fin 8), p ≠ k → SetTable.freeSlot { tabOf led [] with place := #[p.val] } (hashInt (k.val : Int)) = some (k.val, false) := by decide +kernel
theorem put_1l : ∀ (led : Bool) (p k : Fin 8), k < p → SetTable.put { tabOf led [] with place := #[p.val] } k.val = ({ tabOf led [] with place := #[k.val, p.val] }, 0) := by decide +kernel
theorem put_1r : ∀ (led : Bool) (p k : Fin 8), p < k → SetTable.put { tabOf led [] with place := #[p.val] } k.val = ({ tabOf led [] with place := #[p.val, k.val] }, 1) := by decide +kernel
theorem hash_small : ∀ k : Fin 8, hashInt (k.val : Int) = k.val := by decide +kernel
theorem layNew_small {led : Bool} {ps : List (Nat × Tok)} {k : Nat} {t : Tok} (hk : k < 8) (hps : ps = [] ∨ ∃ p, ps = [p] ∧ p.1 < 8 ∧ p.1 ≠ k) :
  layNew (tabOf led ps) (esOf ps) (hashInt (k : Int)) (.int k t) = (esOf (addPs ps (k, t)), tabOf led (addPs ps (k, t)), false, false) ∧ OkPs (addPs ps (k, t)) := by
 rcases hps with rfl | ⟨p, rfl, hp, hne⟩
 ·refine ⟨?_, .one hk⟩
  have h1 := free_0 led ⟨k, hk⟩
  have h2 := put_0 led ⟨k, hk⟩
  have h3 := hash_small ⟨k, hk⟩
  simp only at h1 h2 h3
  unfold layNew
  rw [h1]
  simp only [h2, h3]
  simp [esOf, addPs, tabOf, SetTable.insertAt, SetTable.orStandIn, SetTable.fits, SetTable.fill]
 ·have h1 := free_1 led ⟨p.1, hp⟩ ⟨k, hk⟩ (fun e => hne (by simpa using congrArg Fin.val e))
  have h3 := hash_small ⟨k, hk⟩
  simp only at h1 h3
  have ht : tabOf led [p] = { tabOf led [] with place := #[p.1] } := rfl
  rcases Nat.lt_or_gt_of_ne hne with hlt | hlt
  ·have h2 := put_1r led ⟨p.1, hp⟩ ⟨k, hk⟩ hlt
   simp only at h2
   have ha : addPs [p] (k, t) = [p, (k, t)] := by simp [addPs, hne]; lia
   rw [ha]
   refine ⟨?_, .two hlt hk⟩
   unfold layNew
   rw [ht, h1]
   simp only [h2, h3]
   simp [esOf, tabOf, SetTable.insertAt, SetTable.orStandIn, SetTable.fits, SetTable.fill]
  ·have h2 := put_1l led ⟨p.1, hp⟩ ⟨k, hk⟩ hlt
   simp only at h2
   have ha : addPs [p] (k, t) = [(k, t), p] := by simp [addPs, hne]; lia
   rw [ha]
   refine ⟨?_, .two hlt hp⟩
   unfold layNew
   rw [ht, h1]
   simp only [h2, h3]
   simp [esOf, tabOf, SetTable.insertAt, SetTable.orStandIn, SetTable.fits, SetTable.fill]
section
variable {prog : Program} {w : World} {A : Around} {E : Value → Shared → Prop} {s : Shared} {d I : Addr} {ps : List (Nat × Tok)} {ep : Nat} {led : Bool}
theorem elems_of (ok : OkPs ps) : ElemsOf (intKind prog w) (esOf ps).toList := by
 have one : ∀ p : Nat × Tok, p.1 < 8 → (∃ k, (intKind prog w).is k (Value.int p.1 p.2) = true ∧ (p.1 : Int) = (intKind prog w).hash k) ∧ (Value.int p.1 p.2).scannable = true := fun p hp =>
  ⟨⟨p.1, intKind_is _ _ _ _, (hash_small ⟨p.1, hp⟩).symm⟩, rfl⟩
 cases ok with
 | zero => intro e he; simp [esOf] at he
 | one h => intro e he; simp [esOf] at he; subst he; exact one _ h
 | two h1 h2 =>
  intro e he
  simp [esOf] at he
  rcases he with rfl | rfl
  ·exact one _ (by solve_by_elim (maxDepth := 4) only [*, Nat.le_of_lt, Nat.lt_of_lt_of_le, Nat.lt_of_le_of_lt, Nat.lt_trans, Nat.le_trans, Nat.ne_of_lt, Nat.ne_of_gt])
  ·exact one _ h2
theorem OkPs.len {ps : List (Nat × Tok)} (ok : OkPs ps) : ps.length ≤ 2 := by cases ok <;> simp
theorem OkPs.room {ps : List (Nat × Tok)} (led : Bool) (ok : OkPs ps) : (tabOf led ps).tooFull = false := by cases ok <;> simp [tabOf, SetTable.tooFull, SetTable.fill]
theorem setAdd_V (ok : OkPs ps) (hl : ps.length ≤ 1) (hS : SAt s.heap d (esOf ps) ep (tabOf led ps)) {k : Nat} {t : Tok} (hk : k < 8) {Q : Bool → Shared → Prop}
  (hq : ∀ b h' ep', Heap.SameBut d s.heap h' → SAt h' d (esOf (addPs ps (k, t))) ep' (tabOf led (addPs ps (k, t))) → OkPs (addPs ps (k, t)) → Q b { s with heap := h', toks := s.toks + 1 }) :
  wpAny (model prog w) A (setAdd d (.int k t)) Q E s := by
 have hf := fits_of led ok
 have hel := elems_of (prog := prog) (w := w) ok
 have hsz : (esOf ps).size < scanBound := by rw [esOf_size]; unfold scanBound; exact Nat.lt_of_le_of_lt (by assumption) (by decide)
 unfold setAdd
 refine wpAny_holding (wpAny_bind ((intKind prog w).pyHash (k := (k : Int)) (intKind_is _ _ _ _) ?_))
 show wpAny _ _ (setAddHashed d (.int k t) (hashInt k)) _ _ _
 unfold setAddHashed setAddHashedIn
 refine wpAny_holding (wpAny_bind (wpAny_setState_of (s := { s with toks := s.toks + 1 }) hS rfl hf ?_))
 dsimp only
 rw [byScan_of (knd := intKind prog w) rfl hsz hel]
 simp only [↓reduceIte]
 unfold setAddByScan
 refine wpAny_bind (wpAny_bind (wpAny_rule (wpAny_bind ?_)))
 refine wpAny_setScan_of (knd := intKind prog w) (k := (k : Int)) (s := { s with toks := s.toks + 1 }) (intKind_is _ _ _ _) hS rfl hf hel ?_
 cases hr : List.findIdx? (fun e => (intKind prog w).is (k : Int) e.2) (esOf ps).toList with
 | some j =>
  have hadd : addPs ps (k, t) = ps := by
   cases ok with
   | zero => simp [esOf] at hr
   | one h =>
    rename_i p
    simp [esOf, intKind, Value.isInt] at hr
    simp [addPs]
    lia
   | two => simp at hl
  rw [hadd] at hq
  exact wpAny_pure (wpAny_pure (hq _ s.heap ep (Heap.SameBut.refl ..) hS ok))
 | none =>
  have hps : ps = [] ∨ ∃ p, ps = [p] ∧ p.1 < 8 ∧ p.1 ≠ k := by
   cases ok with
   | zero => exact .inl rfl
   | one h =>
    rename_i p
    simp [esOf, intKind, Value.isInt] at hr
    exact .inr ⟨p, rfl, h, by lia⟩
   | two => simp at hl
  obtain ⟨hL, ok'⟩ := layNew_small (led := led) (t := t) hk hps
  have hfull := ok'.room led
  have hes : (esOf (addPs ps (k, t))).size ≤ sizeLine := by
   have := ok'.len
   rw [esOf_size, sizeLine_val]; exact Nat.le_trans (by assumption) (Nat.le_add_left _ _)
  dsimp only
  rw [hL]
  dsimp only
  refine wpAny_bind (wpAny_of_eq (a := ()) rfl ?_)
  rw [if_pos (show (tabOf led (addPs ps (k, t))).plain = true from rfl)]
  refine wpAny_bind ?_
  rw [hashByValue_scannable 8 rfl]
  refine wpAny_pure ?_
  show wpAny _ _ (storeSet d (esOf (addPs ps (k, t))) (tabOf led (addPs ps (k, t))) >>= _) _ _ _
  refine wpAny_bind (wpAny_storeSet_of (s := { s with toks := s.toks + 1 }) hS rfl ?_ hes)
  rw [if_neg (by
   show ¬ (!false && (tabOf led (addPs ps (k, t))).tooFull) = true
   rw [hfull]; decide)]
  refine wpAny_pure (wpAny_pure ?_)
  have hup := Heap.get?_update_self (Obj.putSet (esOf (addPs ps (k, t))) (tabOf led (addPs ps (k, t)))) hS (by rw [putSet_of _ _ rfl]; rfl)
  rw [putSet_of _ _ rfl] at hup
  exact hq _ _ (ep + 1) (Heap.SameBut.update ..) hup ok'
end
end Mine
set_option tactic.hygienic false
set_option maxRecDepth 100000
namespace Mine
open PySem.W
section
variable {prog : Program} {w : World} {A : Around} {E : Value → Shared → Prop} {l D I : Addr} {led : Bool}
theorem setLoop (hh : A.handled = none) (hDI : D ≠ I) (hlI : l ≠ I) (hlD : l ≠ D) {js : List (Nat × Tok)} (hj : js.length ≤ 2) (h8 : ∀ p ∈ js, p.1 < 8) {Rs : Result → Shared → Prop} :
  ∀ (n i : Nat) {s : Shared} {ps : List (Nat × Tok)} {ep : Nat}, js.length - i = n → i ≤ js.length → ps.length ≤ i → OkPs ps → SAt s.heap D (esOf ps) ep (tabOf led ps) → s.heap.IsListIter I l i → s.heap.IsList l (js.map fun p => Value.int p.1 p.2).toArray →
   (∀ h' tk ep', (∀ b o, b ≠ D → b ≠ I → s.heap.get? b = some o → h'.get? b = some o) → SAt h' D (esOf ((js.drop i).foldl addPs ps)) ep' (tabOf led ((js.drop i).foldl addPs ps)) → OkPs ((js.drop i).foldl addPs ps) → Rs (.ok (.ret .none)) { s with heap := h', toks := tk }) →
   codeAny (model prog w) A (.builtin "set.update.loop" ⟨[.ref D, .ref I], []⟩) Rs s
 | 0, i, s, ps, ep, hn, hi, hl, ok, hS, hit, hL, hR => by
  have hd : js.drop i = [] := List.drop_eq_nil_of_le (Nat.le_of_sub_eq_zero hn)
  rw [hd] at hR
  refine codeAny_builtin PyProof.Rows.F.entry_set_update_loop ?_
  rw [Around.under_plainId PyProof.Rows.F.plain_set_update_loop _]
  show wpAny _ A.in1 (pyNext (.ref I) >>= _) _ _ s
  refine wpAny_bind (wpAny_pyNext_list_end (by simpa using hh) hit hL (by simp; exact Nat.le_of_sub_eq_zero hn) fun h' hs => ?_)
  show wpAny _ A.in1 (ret Value.none) _ _ _
  exact wpAny_pure (hR h' s.toks ep (fun b o _ q e => hs b o q e) (hs D _ hDI hS) ok)
 | n + 1, i, s, ps, ep, hn, hi, hl, ok, hS, hit, hL, hR => by
  have hlt : i < js.length := Nat.lt_of_sub_ne_zero (by rw [hn]; exact Nat.succ_ne_zero n)
  have hd : js.drop i = js[i] :: js.drop (i + 1) := List.drop_eq_getElem_cons hlt
  rw [hd] at hR
  refine codeAny_builtin PyProof.Rows.F.entry_set_update_loop ?_
  rw [Around.under_plainId PyProof.Rows.F.plain_set_update_loop _]
  show wpAny _ A.in1 (pyNext (.ref I) >>= _) _ _ s
  refine wpAny_bind (wpAny_pyNext_list_item hit hL (x := Value.int js[i].1 js[i].2) (by simp [hlt]) fun h₁ hit₁ hs₁ => ?_)
  show wpAny _ A.in1 (holding [Value.int js[i].1 js[i].2] (setAdd D (.int js[i].1 js[i].2)) >>= _) _ _ _
  refine wpAny_bind (wpAny_holding ?_)
  have hS₁ : SAt h₁ D (esOf ps) ep (tabOf led ps) := hs₁.extBut D _ hDI hS
  refine setAdd_V (s := { s with heap := h₁ }) ok (by lia) hS₁ (h8 _ (List.getElem_mem hlt)) fun b h₂ ep₂ hs₂ hS₂ ok₂ => ?_
  refine wpAny_pure ⟨plainId_quiet PyProof.Rows.F.plain_set_update_loop _, ?_⟩
  have hlen : (addPs ps (js[i].1, js[i].2)).length ≤ i + 1 := by
   have h1 : ∀ (ps : List (Nat × Tok)) p, (addPs ps p).length ≤ ps.length + 1 := by
    intro ps p
    induction ps with
    | nil => simp [addPs]
    | cons q r ih =>
     unfold addPs
     split
     ·simp
     split
     ·simp
     ·simp; exact ih
   exact Nat.le_trans (h1 ps _) (Nat.succ_le_succ hl)
  refine setLoop hh hDI hlI hlD hj h8 n (i + 1) (s := { s with heap := h₂, toks := s.toks + 1 }) (by rw [Nat.sub_add_eq, hn]; rfl) hlt hlen ok₂ hS₂ ?_ ?_ fun h' tk ep' k hS' ok' => ?_
  ·obtain ⟨o, ho, x⟩ := hit₁
   exact ⟨o, hs₂.extBut I o (Ne.symm hDI) ho, x⟩
  ·exact (hL.extBut hs₁.extBut hlI).extBut hs₂.extBut hlD
  ·exact hR h' tk ep' (fun b o q1 q2 e => k b o q1 q2 (hs₂.extBut b o q1 (hs₁.extBut b o q2 e))) hS' ok'
theorem code_set_led {s : Shared} (a : Value) {Q₁ : Value → Shared → Prop}
  (h : Q₁ (.ref s.heap.objs.size) { s with heap := s.heap.push { cls := .type "set", dict := none, data := .set #[] 0 (.fresh 0 0 (!w.params.followText "set-order")) } }) :
  codeAny (model prog w) A (.call (.builtin "set.__new__") ⟨[.type "set", a], []⟩) (wants Q₁ E) s := by
 refine codeAny_of_tree ?_
 show wpAny _ A.in1 (do checkBuiltinCall "set.__new__" ⟨[.type "set", a], []⟩; again (.builtin "set.__new__" ⟨[.type "set", a], []⟩)) _ _ s
 refine wpAny_bind (wpAny_of_eq (PySem.F.newCall_set_1 a) (wpAny_pure ⟨plainId_quiet PySem.F.plain_set_new _, codeAny_builtin PySem.F.entry_set_new ?_⟩))
 rw [Around.under_plainId PySem.F.plain_set_new _]
 unfold Builtin.«set.__new__» Builtin.Frozenset.newClass
 have hsub := sub_set_self
 obtain ⟨hp, g, d, tk, os⟩ := s
 dsimp only
 wp_walk
 refine wpAny_askSetting (wpAny_pure ?_)
 dsimp only
 simp only [newObj]
 refine wpAny_bind (wpAny_alloc (wpAny_pure ?_))
 exact wpAny_pure h
set_option maxHeartbeats 3200000 in
theorem set_make {s : Shared} {js : List (Nat × Tok)} {Q : Value → Shared → Prop} (hh : A.handled = none) (hl : s.heap.IsList l (js.map fun p => Value.int p.1 p.2).toArray) (hj : js.length ≤ 2) (h8 : ∀ p ∈ js, p.1 < 8)
  (h : ∀ h' tk ep', (∀ b o, s.heap.get? b = some o → h'.get? b = some o) → SAt h' s.heap.objs.size (esOf (js.foldl addPs [])) ep' (tabOf (!w.params.followText "set-order") (js.foldl addPs [])) → OkPs (js.foldl addPs []) → Q (.ref s.heap.objs.size) { s with heap := h', toks := tk }) :
  wpAny (model prog w) A (call (.type "set") [.ref l]) Q E s := by
 generalize hled : (!w.params.followText "set-order") = led at h
 obtain ⟨c, tl, hmro⟩ := PySem.F.called_set.mro
 have hmade := PySem.F.called_set.made
 have hsub := PySem.F.called_set.sub
 refine wpAny_call (codeAny_of_tree ?_)
 show wpAny _ _ (callAny (.type "set") _) _ _ _
 refine wpAny_pure ⟨Code.quiet_builtin _ (by decide +kernel), codeAny_builtin PySem.F.entry_type_call ?_⟩
 rw [Around.under_plain (weight_type_call_type "set" [.ref l] []) rfl]
 have h1 := PySem.F.called_set.notType
 have h2 := PySem.F.called_set.canCreate
 have hct := PySem.F.typeCall_set_1 (.ref l)
 repeat (any_goals (first | assumption | wp_step))
 refine codeAny_mono (code_set_led (.ref l) (E := E) (Q₁ := fun obj s₁ => obj = .ref s.heap.objs.size ∧ s₁ = { s with heap := s.heap.push { cls := .type "set", dict := none, data := .set #[] 0 (.fresh 0 0 (!w.params.followText "set-order")) } }) ⟨rfl, rfl⟩) fun r s₁ hr => ?_
 rw [hled] at hr
 cases r with
 | error e => exact hr
 | ok fl =>
  cases fl with
  | ret obj =>
   obtain ⟨rfl, rfl⟩ := hr
   have hS : (s.heap.push { cls := .type "set", dict := none, data := .set #[] 0 (.fresh 0 0 led) }).get? s.heap.objs.size = some { cls := .type "set", dict := none, data := .set #[] 0 (.fresh 0 0 led) } := Heap.get?_push_size _ rfl
   have hT : Shared.TypeIs { s with heap := s.heap.push { cls := .type "set", dict := none, data := .set #[] 0 (.fresh 0 0 led) } } (.ref s.heap.objs.size) "set" := ⟨_, hS, rfl⟩
   have hli := PySem.F.called_set.init.lookup
   have hbi := PySem.F.called_set.init.bind (.ref s.heap.objs.size)
   repeat (any_goals (first | assumption | wp_step))
   refine codeAny_mono (codeAny_call_builtin (R := wants (fun r s₂ => r = .none ∧ ∃ h' tk ep', s₂ = { s with heap := h', toks := tk } ∧
     (∀ b o, s.heap.get? b = some o → h'.get? b = some o) ∧ SAt h' s.heap.objs.size (esOf (js.foldl addPs [])) ep' (tabOf led (js.foldl addPs [])) ∧ OkPs (js.foldl addPs [])) E) PySem.F.called_set.init.plain PySem.F.entry_set_init (check_set_init_1 hT ?_)) fun r₂ s₂ hr₂ => ?_
   ·obtain ⟨ol, hol, hcl, nl, hdl⟩ := hl
    obtain ⟨ocls, odict, odata, oslots⟩ := ol
    simp only at hcl hdl
    subst hcl; subst hdl
    have hol' : (s.heap.push { cls := .type "set", dict := none, data := .set #[] 0 (.fresh 0 0 led) }).get? l = some { cls := .type "list", dict := odict, data := .seq (js.map fun p => Value.int p.1 p.2).toArray nl, slots := oslots } := Heap.get?_push_of_some _ hol
    have hsls := PySem.F.sub_list_set
    have hslf := PySem.F.sub_list_frozenset
    have hne : (Value.type "list" == Value.type "dict") = false := by decide
    have hl1 : (s.heap.push { cls := .type "set", dict := none, data := .set #[] 0 (.fresh 0 0 led) }).IsList l (js.map fun p => Value.int p.1 p.2).toArray := ⟨_, hol', rfl, nl, rfl⟩
    unfold Builtin.«set.__init__» noKeywords Builtin.Frozenset.updateFrom
    generalize hPI : pyIter = PI
    wp_walk
    subst hPI
    refine wpAny_pyIter_list hl1 ?_
    refine wpAny_bind (wpAny_runValue ?_)
    have hlS : l < s.heap.objs.size := Heap.lt_size hol
    have hI : (s.heap.push { cls := .type "set", dict := none, data := .set #[] 0 (.fresh 0 0 led) }).objs.size = s.heap.objs.size + 1 := by rw [Heap.size_push]
    refine setLoop (led := led) (by simp [hh]) (by rw [hI]; exact Nat.ne_of_lt (Nat.lt_succ_self _)) (by rw [hI]; exact Nat.ne_of_lt (Nat.lt_succ_of_lt hlS)) (Nat.ne_of_lt hlS) hj h8 js.length 0 (ps := []) (ep := 0) (by lia) (by exact Nat.zero_le _) (by simp) .zero (Heap.get?_push_of_some _ hS) ⟨_, Heap.get?_push_size _ rfl, rfl, rfl⟩ (hl1.push _) fun h' tk ep' k hS' ok' => ?_
    show wpAny _ A.in1.in1 (pure ()) _ _ _
    refine wpAny_pure ?_
    show wpAny _ _ (ret Value.none) _ _ _
    refine wpAny_pure ⟨rfl, h', tk, ep', rfl, fun b o e => ?_, hS', ok'⟩
    have hb := Heap.lt_size e
    exact k b o (Nat.ne_of_lt hb) (by rw [hI]; exact Nat.ne_of_lt (Nat.lt_succ_of_lt hb)) (Heap.get?_push_of_some _ (Heap.get?_push_of_some _ e))
   ·cases r₂ with
    | error e => exact hr₂
    | ok fl₂ =>
     cases fl₂ with
     | ret r =>
      obtain ⟨rfl, h', tk, ep', rfl, hk', hS', ok'⟩ := hr₂
      repeat (any_goals (first | assumption | wp_step))
      exact h _ _ _ hk' hS' ok'
     | _ => exact hr₂.elim
  | _ => exact hr.elim
end
end Mine
set_option tactic.hygienic true
set_option tactic.hygienic false
namespace Mine
open PySem.W
theorem ints_js : ∀ {vs : List Value} {is : List Int}, PyProof.Rows.IntsAre vs is → (is.all fun i => decide (0 ≤ i) && decide (i < 8)) = true → ∃ js : List (Nat × Tok), vs = js.map (fun p => Value.int p.1 p.2) ∧ is = js.map (fun p => (p.1 : Int)) ∧ ∀ p ∈ js, p.1 < 8
 | _, _, .nil, _ => ⟨[], rfl, rfl, fun _ z => nomatch z⟩
 | _, _, .cons n t r, h => by
  simp only [List.all_cons, Bool.and_eq_true, decide_eq_true_eq] at h
  obtain ⟨js, rfl, rfl, h3⟩ := ints_js r (by simpa using h.2)
  obtain ⟨k, rfl⟩ := Int.eq_ofNat_of_zero_le h.1.1
  refine ⟨(k, t) :: js, rfl, rfl, fun p hp => ?_⟩
  rcases List.mem_cons.mp hp with rfl | hp
  ·have := h.1.2; simp; lia
  ·exact h3 p hp
theorem js_perm {js : List (Nat × Tok)} (hj : js.length ≤ 2) : ((js.foldl addPs []).map fun p => (p.1 : Int)).Perm (dedupI (js.map fun p => (p.1 : Int))) := by
 match js, hj with
 | [], _ => exact List.Perm.refl _
 | [p], _ => exact List.Perm.refl _
 | [p, q], _ =>
  by_cases h : p.1 = q.1
  ·simp [addPs, dedupI, h]
  ·have h' : ¬ (p.1 : Int) = (q.1 : Int) := by lia
   by_cases h2 : q.1 < p.1
   ·simp [addPs, dedupI, h, h', h2]
    exact List.Perm.swap ..
   ·simp [addPs, dedupI, h, h', h2]
 | _ :: _ :: _ :: _, h => simp at h
section
variable {c : Cx} {A : Around} {E : Value → Shared → Prop} {s : Shared} {ι : Own} {S : List Addr} {μ : Mem} {Q : Value → Shared → Prop} {xs : List V} {vs : List Value} {a d : Addr} {es : List (V × V)}
theorem set_sorted {is : List Int} (hh : A.handled = none) (R : Rel c ι S μ s) (p : PL s.heap a vs) (r : RelVs ι S s.heap vs xs) (e : ints? xs = some is) (h2 : is.length ≤ 2) (h8 : (is.all fun i => decide (0 ≤ i) && decide (i < 8)) = true)
  (hq : PostV c ι S s.heap μ (.lst ((sortI (dedupI is)).map V.int)) Q) : wpAny (model c.prog c.w) A (call (.type "set") [.ref a]) (fun v s₁ => wpAny (model c.prog c.w) A (call (.builtin "sorted") [v]) Q E s₁) E s := by
 obtain ⟨js, rfl, rfl, hj8⟩ := ints_js (ints_are r e) h8
 have hj : js.length ≤ 2 := by simpa using h2
 refine set_make hh p.isList hj hj8 fun h₁ tk ep k₁ hS ok => ?_
 have hp := order_perm (b := c.w.params.followText "set-order") (f := c.w.params.setOrder s.heap.objs.size ep) ok
 refine sorted_src (s := { s with heap := h₁, toks := tk }) (ns := (orderOf (c.w.params.followText "set-order") (c.w.params.setOrder s.heap.objs.size ep) (js.foldl addPs [])).map (·.1)) (setSrc (ep := ep) ok) hh hS (by have := ok.len; exact Nat.lt_of_le_of_lt (by assumption) (by decide)) (fun acc hacc => ?_) fun h₂ tk₂ b out ns' k₂ fr pb hI h1 h3 => ?_
 ·have hlen : (orderOf (c.w.params.followText "set-order") (c.w.params.setOrder s.heap.objs.size ep) (js.foldl addPs [])).length = acc.size := by rw [hp.length_eq, Array.length_toList, esOf_size, hacc.1]
  have hall : ∀ e ∈ orderOf (c.w.params.followText "set-order") (c.w.params.setOrder s.heap.objs.size ep) (js.foldl addPs []), ∃ t, e.2 = Value.int e.1 t := by
   intro e he
   have := hp.mem_iff.mp he
   simp [esOf] at this
   obtain ⟨a, b, _, rfl⟩ := this
   exact ⟨_, rfl⟩
  have hget := hacc.2
  generalize hO : orderOf (c.w.params.followText "set-order") (c.w.params.setOrder s.heap.objs.size ep) (js.foldl addPs []) = O at hlen hall hget
  have key : ∀ (l : List Value) (O : List (Int × Value)), O.length = l.length → (∀ e ∈ O, ∃ t, e.2 = Value.int e.1 t) → (∀ (j : Nat) (v : Value), l[j]? = some v → ∃ e, O[j]? = some e ∧ v = e.2) → PyProof.Rows.IntsAre l (O.map (·.1)) := by
   intro l
   induction l with
   | nil =>
    intro O h _ _
    have : O = [] := List.length_eq_zero_iff.mp (by simpa using h)
    subst this; exact .nil
   | cons v l ih =>
    intro O h ha hg
    cases O with
    | nil => simp at h
    | cons e O =>
     obtain ⟨e', he', hv⟩ := hg 0 v rfl
     simp at he'
     subst he'
     obtain ⟨t, ht⟩ := ha e (.head _)
     rw [hv, ht]
     exact .cons _ t (ih O (by simpa using h) (fun e he => ha e (.tail _ he)) fun j v hv => by simpa using hg (j + 1) v (by simpa using hv))
  refine key acc.toList O (by simpa using hlen) hall fun j v hv => hget j v (by simpa using hv)
 ·have hpm : ns'.Perm (dedupI (js.map fun p => (p.1 : Int))) := by
   refine h1.trans (((hp.map _).trans ?_).trans (js_perm hj))
   have : (esOf (js.foldl addPs [])).toList.map (·.1) = (js.foldl addPs []).map fun p => (p.1 : Int) := by simp [esOf]
   rw [this]
  rw [← sortI_unique hpm h3] at hq
  exact hq.freshLst R (fun b o e => k₂ b o (k₁ b o e)) (none_of_keeps k₁ _ fr) pb (rel_ints hI)
end
end Mine
set_option tactic.hygienic true
set_option tactic.hygienic false
namespace Mine
open PySem.W
section
variable {n : Nat} {h : Here} {ρ : Loc} {μ : Mem} {p p' : Pos} {k : Nat} {Q : V → Mem → Prop}
theorem w_dict0 (q : Q (.ref μ.length) (μ ++ [.dict []])) : W2 (ev n (.Dict [] [] p) h ρ μ) Q := by
 intro c A E s ι S env F G hr R r K
 refine wpAny_Dict_empty ?_
 have X := dict0 R s.toks
 exact K _ _ q _ _ _ X.2 X.1 (.ref (d := none) (by rw [← R.len]; simp))
theorem w_dict2 {ka kb : Str} {k1 k2 : Nat} {p1 p2 : Pos} {e1 e2 : Expr} (H : W2 (ev n e1 h ρ (μ ++ [.dict []])) fun v1 μ1 => W2 (ev n e2 h ρ μ1) fun v2 μ2 => μ2[μ.length]? = some (.dict []) ∧ Q (.ref μ.length) (μ2.set μ.length (.dict (dput (dput [] (.str ka) v1) (.str kb) v2)))) :
  W2 (ev n (.Dict [some (.Constant (.str ka) k1 p1), some (.Constant (.str kb) k2 p2)] [e1, e2] p) h ρ μ) Q := by
 intro c A E s ι S env F G hr R r K
 refine wpAny_Dict_any rfl rfl (by simp) (by simp) ?_
 obtain ⟨R', E'⟩ := dict0 R s.toks
 show wpAny (model c.prog c.w) A (evalPairs [(_, _), (_, _)]) _ _ _
 refine evalPairs_cons (wpAny_bind (wpAny_fresh (wpAny_pure ?_)))
 obtain ⟨R1, E1⟩ := dict0 R (s.toks + 1)
 generalize hD : s.heap.objs.size = D at R1 E1 ⊢
 refine wpAny_bind (H G hr R1 (r.mono R rfl E1) fun v1 μ₁ H w1 ι₁ s₁ E₁ R₁ rw1 => wpAny_bind (wpAny_standAt (wpAny_pure ?_)))
 refine evalPairs_cons (wpAny_bind (wpAny_fresh (wpAny_pure ?_)))
 have R1' := R₁.keeps (s' := { s₁ with toks := s₁.toks + 1 }) (fun _ _ e => e) rfl rfl
 refine wpAny_bind (H G hr R1' (r.mono R rfl (E1.trans E₁)) fun v2 μ₂ H w2 ι₂ s₂ E₂ R₂ rw2 => wpAny_bind (wpAny_standAt (wpAny_pure (evalPairs_nil ?_))))
 have hD2 : ι₂[μ.length]? = some (D, none) := by
  obtain ⟨r1, rfl⟩ := E₁.pre
  obtain ⟨r2, rfl⟩ := E₂.pre
  rw [← R.len, List.append_assoc, List.append_assoc, List.getElem?_append_right (Nat.le_refl _)]
  simp
 have hk1 : okKey [] (.str ka) = true := rfl
 have hk2 : okKey (dput [] (.str ka) v1) (.str kb) = true := rfl
 have rw1' := rw1.mono E₂ fun _ z => nomatch z
 show wpAny _ _ (storeAll D [(.str ka _, w1), (.str kb _, w2)]) _ _ _
 unfold storeAll
 rw [List.forIn_cons]
 refine wpAny_bind (wpAny_bind (dictSet_V _ hr.u R₂ hD2 H.1 (.str _ _) rw1' hk1 (by decide) fun s₃ E₃ R₃ => wpAny_pure ?_))
 have hm3 : (μ₂.set μ.length (O.dict (dput [] (.str ka) v1)))[μ.length]? = some (.dict (dput [] (.str ka) v1)) := by
  rw [List.getElem?_set_self (getElem_some H.1)]
 show wpAny _ _ (forIn [(Value.str kb _, w2)] _ _) _ _ _
 rw [List.forIn_cons]
 refine wpAny_bind (wpAny_bind (dictSet_V _ hr.u R₃ hD2 hm3 (.str _ _) (rw2.mono E₃ fun _ z => nomatch z) hk2 (by simp [dput, limit]) fun s₄ E₄ R₄ => wpAny_pure ?_))
 show wpAny _ _ (forIn ([] : List (Value × Value)) _ _) _ _ _
 rw [List.forIn_nil]
 refine wpAny_pure ?_
 rw [List.set_set] at R₄
 exact K _ _ H.2 _ _ _ ((((E1.trans E₁).trans E₂).trans E₃).trans E₄) R₄ (.ref hD2)
/-- an attribute of v -/
noncomputable def atV (v : V) (a : Str) (μ : Mem) (q : V → Prop) : Prop := ∃ k C fs w, v = .ref k ∧ μ[k]? = some (.inst C fs) ∧ attrTable.contains a = true ∧ fs.lookup a = some w ∧ q w
theorem w_attrV {a C : Str} {fs : List (Str × V)} {w : V} {Q : V → Prop} (hm : μ[k]? = some (.inst C fs)) (ha : attrTable.contains a = true) (hl : fs.lookup a = some w) (q : Q w) : WS (atV (.ref k) a μ) Q := ⟨k, C, fs, w, rfl, hm, ha, hl, q⟩
theorem w_attr {o : Expr} {a : Str} (ho : isSup o = false) (H : W2 (ev n o h ρ μ) fun v μ => WS (atV v a μ) fun w => Q w μ) : W2 (ev n (.Attribute o a p) h ρ μ) Q := by
 intro c A E s ι S env F G hr R r K
 refine Attribute_V ho (H G hr R r fun v μ₁ H u ι₁ s₁ E₁ R₁ ru => ?_)
 obtain ⟨k, C, fs, w, rfl, hm, ha, hv, q⟩ := H
 exact ru.refI (P := fun z => wpAny _ _ (getAttr z _ _) _ _ _) fun x d hn => getAttr_V G.toGood0 R₁ hn hm ha hv ((K _ _ q).step E₁)
theorem w_slice {o : Expr} {lo hi : Option Expr} (H : W2 (ev n o h ρ μ) fun v μ => W2 (evo n lo h ρ μ) fun a μ => W2 (evo n hi h ρ μ) fun b μ => WS (sliceV v a b false μ) fun w => Q w μ) : W2 (ev n (.Subscript o (.Slice lo hi .none p') p) h ρ μ) Q := by
 intro c A E s ι S env F G hr R r K
 refine PyProof.Rows.Subscript_ (H G hr R r fun v μ₁ H u ι₁ s₁ E₁ R₁ ru => wpAny_Slice (H G hr R₁ (r.mono R rfl E₁) fun a μ₂ H ul ι₂ s₂ E₂ R₂ rl => H G hr R₂ (r.mono R rfl (E₁.trans E₂)) fun b μ₃ H uu ι₃ s₃ E₃ R₃ ru' => ?_))
 rw [evalPart_none]
 exact wpAny_pure (H R₃ (ru.mono (E₂.trans E₃) nofun) rl ru' .none fun w q => (K _ _ q).step ((E₁.trans E₂).trans E₃))
theorem w_sliceR {o : Expr} {lo hi : Option Expr} {p1 p2 : Pos} (H : W2 (ev n o h ρ μ) fun v μ => W2 (evo n lo h ρ μ) fun a μ => W2 (evo n hi h ρ μ) fun b μ => WS (sliceV v a b true μ) fun w => Q w μ) : W2 (ev n (.Subscript o (.Slice lo hi (some (.UnaryOp .USub (.Constant (.int 1) k p1) p2)) p') p) h ρ μ) Q := by
 intro c A E s ι S env F G hr R r K
 refine PyProof.Rows.Subscript_ (H G hr R r fun v μ₁ H u ι₁ s₁ E₁ R₁ ru => wpAny_Slice (H G hr R₁ (r.mono R rfl E₁) fun a μ₂ H ul ι₂ s₂ E₂ R₂ rl => H G hr R₂ (r.mono R rfl (E₁.trans E₂)) fun b μ₃ H uu ι₃ s₃ E₃ R₃ ru' => ?_))
 rw [evalPart_some, arm_eval_UnaryOp, arm_eval_Constant]
 refine wpAny_bind (wpAny_mkInt (wpAny_bind (wpAny_standAt (wpAny_holding (PyProof.Rows.neg_int ?_)))))
 exact H (s := { s₃ with toks := s₃.toks + 1 + 1 }) (R₃.keeps (s' := { s₃ with toks := s₃.toks + 1 + 1 }) (fun _ _ e => e) rfl rfl) (ru.mono (E₂.trans E₃) nofun) rl ru' (.int _ _) fun w q => (K _ _ q).step ((E₁.trans E₂).trans E₃)
theorem w_item {o i : Expr} (_hs : isSlice i = false) (H : W2 (ev n o h ρ μ) fun v μ => W2 (ev n i h ρ μ) fun a μ => WS (getItemV v a μ) fun w => Q w μ) : W2 (ev n (.Subscript o i p) h ρ μ) Q := by
 intro c A E s ι S env F G hr R r K
 refine PyProof.Rows.Subscript_ (H G hr R r fun v μ₁ H u ι₁ s₁ E₁ R₁ ru => H G hr R₁ (r.mono R rfl E₁) fun a μ₂ H u' ι₂ s₂ E₂ R₂ ru' => ?_)
 exact H hr.u1' R₂ (ru.mono E₂ nofun) ru' fun w q => (K _ _ q).step (E₁.trans E₂)
theorem w_call {f : Expr} {args : List Expr} (hc : callOk f args p = true) (H : W2 (evCall n f args h ρ μ) Q) : W2 (ev n (.Call f args [] p) h ρ μ) Q := by
 intro c A E s ι S env F G hr R r K
 exact H hc G hr R r K
end
section
variable {c : Cx} {n : Nat} {A : Around} {E : Value → Shared → Prop} {s : Shared} {ι : Own} {S : List Addr} {env : Env} {h : Here} {ρ : Loc} {μ : Mem}
theorem bltn_all : ((["len", "list", "tuple", "dict", "range", "sorted", "sum", "max", "int"] : List Str).all fun f => decide (bootBuiltins f = some (bval f) ∧ f ≠ "__name__" ∧ (f == ("__debug__" : Str)) = false ∧ bltns.contains f = true)) = true := by decide +kernel
theorem bltn_boot {f : Str} (e : isBltn f = true) : bootBuiltins f = some (bval f) ∧ f ≠ "__name__" ∧ (f == ("__debug__" : Str)) = false ∧ bltns.contains f = true := of_decide_eq_true (List.all_eq_true.mp bltn_all f (List.contains_iff_mem.mp e))
theorem loadB_V (G : Good c) {f : Str} {p : Pos} {v : Value} {Q : Value → Shared → Prop} (R : Rel c ι S μ s) (r : EnvR env h ι S ρ s.heap) (hx : isGlob h.sc f = true) (hn : nsIn c.K mainGlobals f = some none) (hb : bootBuiltins f = some v) (h1 : f ≠ "__name__") (h2 : (f == ("__debug__" : Str)) = false) (hq : Q v s) :
  wpAny (model c.prog c.w) A (eval (.Name f p) env) Q E s := by
 obtain ⟨mg, hmg⟩ := G.g
 obtain ⟨mb, hmb, hmbb⟩ := G.b
 refine wpAny_Name (ks_loadName_global r.kind (r.kg f hx) (Calls.loadGlobal_builtin (mg := mg) (mb := mb) (by rw [r.glob]; exact hmg.keeps R.keep) (mg_none_of G.kin hmg hn) (by rw [r.blt]; exact hmb.keeps R.keep) ((hmbb _ h1).trans hb) hq)) h2
theorem loadG_V (G : Good c) {f : Str} {p : Pos} {v : Value} {Q : Value → Shared → Prop} (R : Rel c ι S μ s) (r : EnvR env h ι S ρ s.heap) (hx : isGlob h.sc f = true) (hn : nsIn c.K mainGlobals f = some (some v)) (h2 : (f == ("__debug__" : Str)) = false) (hq : Q v s) :
  wpAny (model c.prog c.w) A (eval (.Name f p) env) Q E s := by
 obtain ⟨mg, hmg⟩ := G.g
 refine wpAny_Name (ks_loadName_global r.kind (r.kg f hx) (Calls.loadGlobal_global (mg := mg) (by rw [r.glob]; exact hmg.keeps R.keep) (mg_of G.kin hmg hn) hq)) h2
noncomputable def known (f : Str) : Bool := isBltn f || fnTable.contains f || clsTable.contains f
theorem fns_top : (fnTable.all fun f => (topFn f).isSome) = true := by kernel_rfl
theorem fns_nd : (fnTable.all fun f => !(f == ("__debug__" : Str))) = true := by decide +kernel
theorem cls_nd : (clsTable.all fun f => !(f == ("__debug__" : Str))) = true := by decide +kernel
theorem loadName_V (G : Good c) {f : Str} {p : Pos} {Q : Value → Shared → Prop} (R : Rel c ι S μ s) (r : EnvR env h ι S ρ s.heap) (hx : isGlob h.sc f = true) (hk : known f = true)
  (hq : ∀ g, GlobR c f g → (∀ hp, c.K.In hp → ∃ k, (k = Keeper.frame ∨ k = Keeper.machine ∨ k = Keeper.boundFrame) ∧ Looks (model c.prog c.w) hp (keeperOf g) k) → Q g s) : wpAny (model c.prog c.w) A (eval (.Name f p) env) Q E s := by
 unfold known at hk
 rw [Bool.or_eq_true, Bool.or_eq_true] at hk
 cases hb : isBltn f with
 | true =>
  have e := bltn_boot hb
  refine loadB_V G R r hx (G.bl f e.2.2.2) e.1 e.2.1 e.2.2.1 (hq _ (.bl hb) fun hp X => ?_)
  unfold bval
  repeat' split
  all_goals first | exact keeps_builtin _ _ | exact keeps_type _ _
 | false =>
  rw [hb] at hk
  cases ht : topFn f with
  | some d =>
   obtain ⟨x, h1, h2, h3⟩ := G.fn f d ht
   have h4 : fnTable.contains f = true := by
    unfold topFn at ht
    cases e : fnTable.contains f with
    | true => rfl
    | false => rw [e] at ht; exact nomatch ht
   exact loadG_V G R r hx h1 (by simpa using List.all_eq_true.mp fns_nd f (List.contains_iff_mem.mp h4)) (hq _ (.fn hb ht h2 h3) fun hp X => keeps_any (by simp only [keepIn, h2.at_]) hp X)
  | none =>
   have hc : clsTable.contains f = true := (hk.resolve_left fun q => q.elim (fun z => nomatch z) fun z => by
    have := List.all_eq_true.mp fns_top f (List.contains_iff_mem.mp z)
    rw [ht] at this; exact nomatch this)
   obtain ⟨Ca, h1, h2⟩ := G.cls' f hc
   exact loadG_V G R r hx h2 (by simpa using List.all_eq_true.mp cls_nd f (List.contains_iff_mem.mp hc)) (hq _ (.cls hb ht hc h1) fun hp X => keeps_any (G.inst _ _ h1).keep hp X)
end
section
variable {n : Nat} {h : Here} {ρ : Loc} {μ : Mem} {p p' : Pos} {k : Nat} {Q : V → Mem → Prop}
theorem w_callN {f : Str} {args : List Expr} (hk : known f = true) (hg : isGlob h.sc f = true) (H : W2 (evs n args h ρ μ) fun vs μ => W2 (glob n f vs μ) Q) : W2 (evCall n (.Name f p) args h ρ μ) Q := by
 intro c A E s ι S env pos F hok G hr R r K
 have hns : noStar args = true := (Bool.and_eq_true_iff.mp hok).1
 refine wpAny_Call_Name_kw (loadName_V G R r hg hk fun g hgr hkeep => callWith_V (P := c.K.In) hns hkeep ?_)
 exact H hns G hr R r fun xs μ₁ _ H vs ι₁ s₁ E₁ R₁ rv => ⟨G.toGood0.K R₁, H hgr G hr R₁ rv fun x μ' q => (K _ _ q).step E₁⟩
theorem w_sortSet {a : Expr} {p1 p2 p3 : Pos} (hg : (isGlob h.sc "sorted" && isGlob h.sc "set" && !isStar a) = true) (H : W2 (ev n a h ρ μ) fun v μ => W1 (listOf v μ) fun vs => W1 (setSort vs) fun w => Q w μ) :
  W2 (evCall n (.Name "sorted" p1) [.Call (.Name "set" p2) [a] [] p3] h ρ μ) Q := by
 intro c A E s ι S env pos F hok G hr R r K
 rw [Bool.and_eq_true, Bool.and_eq_true, Bool.not_eq_true'] at hg
 refine wpAny_Call_Name_kw (loadB_V G R r hg.1.1 (G.bl _ (by decide +kernel)) (v := .builtin "sorted") (by decide +kernel) (by decide) (by decide) ?_)
 refine callWith_V (P := fun _ => True) rfl (fun _ _ => keeps_builtin _ _) (items_cons nofun ?_)
 refine wpAny_Call_Name_kw (loadB_V G R r hg.1.2 (G.bl _ (by decide +kernel)) (v := .type "set") (by decide +kernel) (by decide) (by decide) ?_)
 refine callWith_V (P := fun _ => True) (by unfold noStar; rw [List.all_cons, hg.2]; rfl) (fun _ _ => keeps_type _ _) (items_cons (star_ne hg.2) (H G hr R r fun v μ₁ H u ι₁ s₁ E₁ R₁ ru => wpAny_items_nil ⟨trivial, ?_⟩))
 obtain ⟨vs, h2, w, h3, q⟩ := H
 obtain ⟨l, us, rfl, pl, rus⟩ := list_of R₁ ru h2
 unfold setSort at h3
 cases his : ints? vs with
 | none => rw [his] at h3; exact nomatch h3
 | some is =>
  rw [his] at h3
  change (if _ then _ else none) = some w at h3
  split at h3
  ·rename_i hc
   cases h3
   exact wpAny_mono (set_sorted (E := E) (Q := F) hr.handled R₁ pl rus his hc.1 hc.2 ((K _ _ q).step E₁)) (fun v s₂ h₂ => wpAny_items_nil ⟨trivial, h₂⟩) fun _ _ z => z
  ·exact nomatch h3
theorem w_src {e : Expr} {Q : Src → Mem → Prop} (H : W2 (ev n e h ρ μ) fun v μ => W2 (sof v μ) Q) : W2 (src n e h ρ μ) Q := by
 intro c A E s ι S env F G hr R r K
 exact H G hr R r fun v μ₁ H u ι₁ s₁ E₁ R₁ ru => H R₁ ru fun sr q a T s' k fr R' z => K _ _ q a T ι₁ s' (E₁.trans (Ext.of_keeps k)) (fun y hy => E₁.live y (fr y hy)) R' z
theorem w_srcEnum {a : Expr} {p1 p2 : Pos} {Q : Src → Mem → Prop} (hg : (isGlob h.sc "enumerate" && !isStar a) = true) (H : W2 (ev n a h ρ μ) fun v μ => W1 (enumOf v μ) fun s => Q s μ) : W2 (src n (.Call (.Name "enumerate" p1) [a] [] p2) h ρ μ) Q := by
 intro c A E s ι S env F G hr R r K
 rw [Bool.and_eq_true, Bool.not_eq_true'] at hg
 refine wpAny_Call_Name_kw (loadB_V G R r hg.1 (G.bl _ (by decide +kernel)) (v := .type "enumerate") (by decide +kernel) (by decide) (by decide) ?_)
 refine callWith_V (P := fun _ => True) (args := [_]) (by unfold noStar; rw [List.all_cons, hg.2]; rfl) (fun _ _ => keeps_type _ _) ?_
 refine items_cons (star_ne hg.2) (H G hr R r fun v μ₁ H u ι₁ s₁ E₁ R₁ ru => wpAny_items_nil ⟨trivial, W1.elim H fun sr key q => ?_⟩)
 exact enum_V key R₁ ru fun a T s' k fr R' z => iter_self z (K _ _ q a T ι₁ s' (E₁.trans (Ext.of_keeps k)) (fun y hy => E₁.live y (fr y hy)) R' z)
end
end Mine
set_option tactic.hygienic true
set_option tactic.hygienic false
namespace Mine
open PySem.W
section
variable {c : Cx} {n : Nat} {A : Around} {E : Value → Shared → Prop} {s : Shared} {ι : Own} {S T : List Addr} {env : Env} {h : Here} {ρ : Loc} {μ : Mem}
theorem PL.noDict {h : Heap} {a : Addr} {vs : List Value} (p : PL h a vs) : ∀ a', Value.ref a = .ref a' → ∃ o, h.get? a' = some o ∧ o.dict = none := fun a' e' => by
 cases e'; obtain ⟨q, e1⟩ := p; exact ⟨_, e1, rfl⟩
theorem DObj.noDict {h : Heap} {a : Addr} {es : List DictEntry} (p : DObj h a es) : ∀ a', Value.ref a = .ref a' → ∃ o, h.get? a' = some o ∧ o.dict = none := fun a' e' => by
 cases e'; obtain ⟨q, e1⟩ := p; exact ⟨_, e1, rfl⟩
theorem low_notSpace {z : Str} (e : oneLow z = true) : Txt.isspace z = false := by
 obtain ⟨h1, h2, h3⟩ := one_low e
 rw [h1]
 generalize z.cps.getD 0 0 = k at h2 h3
 have : ∀ j : Fin 26, Txt.isspace ⟨#[97 + j.val]⟩ = false := by decide +kernel
 have := this ⟨k - 97, Nat.sub_lt_right_of_lt_add h2 (Nat.lt_succ_of_le h3)⟩
 simpa [show 97 + (k - 97) = k by exact Nat.add_sub_cancel' (by assumption)] using this
noncomputable def listId (m : Str) : String := if m = "append" then "list.append" else if m = "pop" then "list.pop" else "list.extend"
noncomputable def dictId (m : Str) : String := if m = "pop" then "dict.pop" else "dict.setdefault"
theorem later_ref {ι₁ : Own} {k : Nat} {p : Addr × Option Addr} {h h' : Heap} (hn : ι[k]? = some p) (E : Ext T ι h ι₁ h') : ι₁[k]? = some p := by
 obtain ⟨t, rfl⟩ := E.pre
 rw [List.getElem?_append_left (List.getElem?_eq_some_iff.mp hn).1]
 exact hn
theorem inst0 {C : Str} {Ca : Addr} (hC : c.cls C = some Ca) (R : Rel c ι S μ s) :
  Rel c (ι ++ [(s.heap.objs.size + 1, some s.heap.objs.size)]) S (μ ++ [.inst C []]) { s with heap := (s.heap.push emptyDict).push (instObj Ca s.heap.objs.size) } ∧
  Ext [] ι s.heap (ι ++ [(s.heap.objs.size + 1, some s.heap.objs.size)]) ((s.heap.push emptyDict).push (instObj Ca s.heap.objs.size)) := by
 have k : ∀ b o, s.heap.get? b = some o → ((s.heap.push emptyDict).push (instObj Ca s.heap.objs.size)).get? b = some o := fun b o e => Heap.get?_push_of_some _ (Heap.get?_push_of_some _ e)
 have n1 : s.heap.get? (s.heap.objs.size + 1) = none := by
  cases q : s.heap.get? (s.heap.objs.size + 1) with
  | none => rfl
  | some o => exact absurd (Heap.lt_size q) (Nat.not_lt.mpr (Nat.le_succ _))
 refine R.alloc (s' := { s with heap := (s.heap.push emptyDict).push (instObj Ca s.heap.objs.size) }) (p := (s.heap.objs.size + 1, some s.heap.objs.size)) (o := .inst C []) k rfl rfl (fun b hb => ?_) ?_ fun _ => ?_
 ·rcases List.mem_cons.mp hb with rfl | hb
  ·exact n1
  ·simp at hb; subst hb; exact get_size _
 ·simp
 ·refine .inst (es := []) (n := 0) ?_ hC ?_ .nil
  ·have := Heap.get?_push_size (s.heap.push emptyDict) (o := instObj Ca s.heap.objs.size) rfl
   rwa [Heap.size_push] at this
  ·exact Heap.get?_push_of_some _ (Heap.get?_push_size _ rfl)
end
section
variable {n : Nat} {h : Here} {ρ : Loc} {μ : Mem} {p p' : Pos} {k : Nat} {Q : V → Mem → Prop} {R : Fl → Loc → Mem → Prop}
noncomputable def retQ (Q : V → Mem → Prop) (fl : Fl) (μ : Mem) : Prop := match fl with
 | .next => Q .none μ
 | .ret v => Q v μ
theorem w_callD {D nm : Str} {params : Arguments} {body : List Stmt} {dl : List Expr} {rt : Option Expr} {tp : List TypeParam} {sc : Scope} {ts : Option Scope} {bd : Str} {vs : List V} {ρ : Loc} (hz : zipBinds sc params.args vs [] = some ρ)
  (H : W3 (exB n body ⟨D, sc⟩ ρ μ) fun fl _ μ => retQ Q fl μ) : W2 (callD (n + 1) D (.FunctionDef nm params body dl rt tp sc ts bd p) vs μ) Q := by
 intro c A s ι S us fn Rs G FO I hr RR rv K
 obtain ⟨a, dl, rt, tp, ts, bd, p, e⟩ := I
 cases e
 refine call_V G.toGood1 FO hr.d RR rv hz fun env s₁ S' Fr R₁ r₁ k hS hfr => H G FO Fr rfl FO.sup hr.deeper R₁ r₁ fun fl ρ₂ μ₂ H f ι₂ s₂ E₂ R₂ r₂ rf => ?_
 have E' := Ext.of_inner k hfr E₂
 cases rf with
 | next => exact K _ _ H _ ι₂ s₂ E' (R₂.subS hS) .none
 | ret ru => exact K _ _ H _ ι₂ s₂ E' (R₂.subS hS) (ru.sub hS)
theorem w_b0 (q : R .next ρ μ) : W3 (exB n [] h ρ μ) R := by
 intro c A E s ι S env F fn G FO Fr hsc hsup hr RR r K
 exact wpAt_of_wpAny' (wpAny_execs_nil (K _ _ _ q .next ι s (Ext.refl ..) RR r .next))
noncomputable def contB (n : Nat) (ss : List Stmt) (h : Here) (R : Fl → Loc → Mem → Prop) (fl : Fl) (ρ : Loc) (μ : Mem) : Prop := match fl with
 | .next => W3 (exB n ss h ρ μ) R
 | .ret v => R (.ret v) ρ μ
theorem w_b1 {s : Stmt} {ss : List Stmt} (_hs : supSt s = false) (H : W3 (ex n s h ρ μ) (contB n ss h R)) : W3 (exB n (s :: ss) h ρ μ) R := by
 intro c A E s ι S env F fn G FO Fr hsc hsup hr RR r K
 refine ks_wpAt_execs_cons (wpAt_of_wpAny' (H G hr RR r fun fl ρ₁ μ₁ H f ι₁ s₁ E₁ R₁ r₁ rf => ?_))
 cases rf with
 | next => exact (show W3 (exB n ss h ρ₁ μ₁) R from H) G FO Fr hsc hsup hr R₁ r₁ fun fl ρ₂ μ₂ q f ι₂ s₂ E₂ R₂ r₂ rf => K _ _ _ q f ι₂ s₂ (E₁.trans E₂) R₂ r₂ rf
 | ret rv => exact K _ _ _ H _ ι₁ s₁ E₁ R₁ r₁ (.ret rv)
/-- super().m(..) as a statement -/
theorem w_bsupE {ss : List Stmt} {m : Str} {args : List Expr} {p0 p1 ap p pos : Pos} (ho : (ap.endLine == p.line && decide (args.length < 30) && noStar args && (h.sc.names.lookup ("super" : Str)).isSome) = true)
  (H : W2 (supC n m args h ρ μ) fun _ μ => W3 (exB n ss h ρ μ) R) : W3 (exB n (.Expr (.Call (.Attribute (.Call (.Name "super" p0) [] [] p1) m ap) args [] p) pos :: ss) h ρ μ) R := by
 intro c A E s ι S env F fn G FO Fr hsc hsup hr RR r K
 have h0 := aL ho
 have U : SupFn c fn h.cls := hsup.elim (fun q => ff (q.symm.trans (aR ho))) id
 exact ks_wpAt_execs_cons (ks_wpAt_Expr_any (H G FO Fr hsc U (beq_iff_eq.mp (aL (aL h0))) (of_decide_eq_true (aR (aL h0))) (aR h0) hr RR r fun x μ₁ H u ι₁ s₁ E₁ R₁ ru => H G FO Fr hsc hsup hr R₁ (r.mono RR rfl E₁) fun fl ρ₂ μ₂ q f ι₂ s₂ E₂ R₂ r₂ rf => K _ _ _ q f ι₂ s₂ ((E₁.weaken nofun).trans E₂) R₂ r₂ rf) (not_interactive r) rfl)
/-- return super().m(..) -/
theorem w_bsupR {ss : List Stmt} {m : Str} {args : List Expr} {p0 p1 ap p pos : Pos} (ho : (ap.endLine == p.line && decide (args.length < 30) && noStar args && (h.sc.names.lookup ("super" : Str)).isSome) = true)
  (H : W2 (supC n m args h ρ μ) fun v μ => R (.ret v) ρ μ) : W3 (exB n (.Return (some (.Call (.Attribute (.Call (.Name "super" p0) [] [] p1) m ap) args [] p)) pos :: ss) h ρ μ) R := by
 intro c A E s ι S env F fn G FO Fr hsc hsup hr RR r K
 have h0 := aL ho
 have U : SupFn c fn h.cls := hsup.elim (fun q => ff (q.symm.trans (aR ho))) id
 exact ks_wpAt_execs_cons (ks_wpAt_Return_some (H G FO Fr hsc U (beq_iff_eq.mp (aL (aL h0))) (of_decide_eq_true (aR (aL h0))) (aR h0) hr RR r fun x μ₁ q u ι₁ s₁ E₁ R₁ ru => K _ _ _ q _ ι₁ s₁ (E₁.weaken nofun) R₁ (r.mono RR rfl E₁) (.ret ru)))
theorem w_sup {m C D : Str} {d : Stmt} {args : List Expr} {fs : List (Str × V)} (hself : ρ.lookup ("self" : Str) = some (.ref k)) (hm : μ[k]? = some (.inst C fs)) (hd : superOf C h.cls m = some (D, d)) (H : W2 (evs n args h ρ μ) fun vs μ => W2 (callD n D d (.ref k :: vs) μ) Q) :
  W2 (supC n m args h ρ μ) Q := by
 intro c A E s ι S env p0 p1 apos pos F fn G FO Fr hsc U hl hlt hns hr RR r K
 obtain ⟨hc, hsc'⟩ := h
 cases hsc
 obtain ⟨Ca, Da, x2, hC, hD, hmro, hfind, hnm, F2, I2⟩ := G.sup C hc m D d hd
 obtain ⟨a, dd, hn⟩ : ∃ a dd, ι[k]? = some (a, dd) := ⟨_, _, List.getElem?_eq_getElem (by rw [RR.len]; exact getElem_some hm)⟩
 refine super_V G.toGood2 FO U Fr r RR hself hn hm hC hD hmro hfind hnm F2 hns hl hlt fun s₁ q k₁ o₁ g₁ f1 f2 => ?_
 have E₁ : Ext [] ι s.heap ι s₁.heap := Ext.of_keeps k₁
 refine H hns G hr (RR.keeps (s' := s₁) k₁ o₁ g₁) (r.mono RR rfl E₁) fun xs μ₁ _ H us ι₂ s₂ E₂ R₂ rus => ⟨⟨E₂.keep q _ (fun z => RR.alive q z f1) nofun f2, G.toGood0.K R₂⟩, ?_⟩
 exact H G F2 I2 hr R₂ (.cons (.ref (later_ref hn E₂)) rus) fun x μ' z v ι₃ s₃ E₃ R₃ rv => K _ _ z v ι₃ s₃ ((E₁.trans E₂).trans E₃) R₃ rv
/-- calls of global names -/
theorem w_bltn {f : Str} {vs : List V} (hb : isBltn f = true) (H : W2 (bltn f vs μ) Q) : W2 (glob n f vs μ) Q := by
 intro c A E s ι S g us F hg G hr RR rv K
 cases hg with
 | bl _ => exact H G hr.handled hr.u12 RR rv K
 | fn h _ _ _ => rw [hb] at h; exact nomatch h
 | cls h _ _ _ => rw [hb] at h; exact nomatch h
theorem w_fn {f : Str} {vs : List V} {d : Stmt} (hb : isBltn f = false) (hd : topFn f = some d) (H : W2 (callD n Str.empty d vs μ) Q) : W2 (glob n f vs μ) Q := by
 intro c A E s ι S g us F hg G hr RR rv K
 cases hg with
 | bl h => rw [hb] at h; exact nomatch h
 | fn _ ht FO I =>
  rw [hd] at ht
  cases ht
  exact wpAny_call (H G FO I hr RR rv K)
 | cls _ h _ _ => rw [hd] at h; exact nomatch h
theorem w_cls {f D : Str} {vs : List V} {d : Stmt} (hb : isBltn f = false) (hn : topFn f = none) (_hc : clsTable.contains f = true) (hd : methodOf f "__init__" = some (D, d)) (H : W2 (callD n D d (.ref μ.length :: vs) (μ ++ [.inst f []])) fun r μ' => r = .none ∧ Q (.ref μ.length) μ') :
  W2 (glob (n + 1) f vs μ) Q := by
 intro c A E s ι S g us F hg G hr RR rv K
 cases hg with
 | bl h => rw [hb] at h; exact nomatch h
 | fn _ h _ _ => rw [hn] at h; exact nomatch h
 | @cls Ca _ _ hc hC =>
  obtain ⟨Ca', fn, hC', hf, FO, I⟩ := G.meth f "__init__" D d hd
  rw [hC] at hC'
  cases hC'
  have X := G.toGood0.K RR
  have ht : typeIn c.K (.ref fn.f) = some (.type "function") := by
   simp only [typeIn, FO.at_, Option.map_some, FO.ty]
  obtain ⟨R₁, E₁⟩ := inst0 hC RR
  have hrel : (ι ++ [(s.heap.objs.size + 1, some s.heap.objs.size)])[μ.length]? = some (s.heap.objs.size + 1, some s.heap.objs.size) := by rw [← RR.len]; simp
  refine wpAny_call ?_
  obtain ⟨hp, gs, dr, tk, os⟩ := s
  refine make_core (makes_of X (G.inst _ _ hC).make) (looks_findIn X hf) (fun self => bind_fn X self ht) (.inl rfl) ?_
  have hr' : Room (A.under (.builtin "type.__call__" ⟨.ref Ca :: us, []⟩)) n := ⟨hr.handled, by have := hr.depth; show A.depth + 1 + n + 2 < _; lia, by have := hr.units; show A.units + 1 + 12 * n + 100 < _; lia⟩
  refine H G FO I hr' R₁ (.cons (.ref hrel) (rv.mono E₁ nofun)) fun x μ' q v ι₂ s₂ E₂ R₂ ru => ?_
  obtain ⟨rfl, q⟩ := q
  cases ru
  exact ⟨rfl, K _ _ q _ ι₂ s₂ (E₁.trans E₂) R₂ (.ref (later_ref hrel E₂))⟩
/-- a method of w -/
noncomputable def methC (n : Nat) (w : V) (m : Str) (args : List Expr) (h : Here) (ρ : Loc) (μ : Mem) (q : V → Mem → Prop) : Prop := ∀ ⦃c A E s ι S env u pos pl Q⦄, noStar args = true → Good c → Room A n → Rel c ι S μ s → EnvR env h ι S ρ s.heap → RelV ι S s.heap u w → (∀ x μ', q x μ' → PostV c ι S s.heap μ' x Q) →
 wpAny (model c.prog c.w) A (getMethod u m pl) (fun fx s₂ => wpAny (model c.prog c.w) A (callWith pos fx.1 fx.2 (backTo pos (starEach args env)) []) Q E s₂) E s
theorem w_callM {o : Expr} {m : Str} {args : List Expr} (H : W2 (ev n o h ρ μ) fun w μ => W2 (methC n w m args h ρ μ) Q) : W2 (evCall n (.Attribute o m p) args h ρ μ) Q := by
 intro c A E s ι S env pos F hok G hr RR r K
 change (noStar args && (p.endLine == pos.line && decide (args.length < 30) && !isSup o)) = true at hok
 rw [Bool.and_eq_true, Bool.and_eq_true, Bool.and_eq_true, beq_iff_eq, decide_eq_true_eq, Bool.not_eq_true'] at hok
 exact MethodCall_V hok.2.2 hok.1 hok.2.1.1 hok.2.1.2 (H G hr RR r fun w μ₁ H u ι₁ s₁ E₁ R₁ ru => H hok.1 G hr R₁ (r.mono RR rfl E₁) ru fun x μ' q => (K _ _ q).step E₁)
theorem w_methI {m C D : Str} {d : Stmt} {args : List Expr} {fs : List (Str × V)} (hm : μ[k]? = some (.inst C fs)) (hl : fs.lookup m = none) (hd : methodOf C m = some (D, d)) (H : W2 (evs n args h ρ μ) fun vs μ => W2 (callD n D d (.ref k :: vs) μ) Q) :
  W2 (methC n (.ref k) m args h ρ μ) Q := by
 intro c A E s ι S env u pos pl F hns G hr RR r ru K
 obtain ⟨Ca, fn, hC, hf, FO, I⟩ := G.meth C m D d hd
 have ht : typeIn c.K (.ref fn.f) = some (.type "function") := by simp only [typeIn, FO.at_, Option.map_some, FO.ty]
 refine ru.refI (P := fun z => wpAny _ _ (getMethod z _ _) _ _ _) fun a d hn => method_V G.toGood0 RR hn hm hC hf ht hl (callWith_V (P := c.K.In) hns (fun hp X => keeps_any (by simp only [keepIn, FO.at_]) hp X) ?_)
 exact H hns G hr RR r fun xs μ₁ _ H us ι₂ s₂ E₂ R₂ rus => ⟨G.toGood0.K R₂, wpAny_call (H G FO I hr R₂ (.cons (.ref (later_ref hn E₂)) rus) fun x μ' q v ι₃ s₃ E₃ R₃ rv => K _ _ q v ι₃ s₃ (E₂.trans E₃) R₃ rv)⟩
/-- a method of a list, of a dict -/
noncomputable def lstC (k : Nat) (m : Str) (xs : List V) (μ : Mem) (q : V → Mem → Prop) : Prop := ∀ ⦃c A E s ι S a vs Q⦄, Good c → Room A 0 → Rel c ι S μ s → ι[k]? = some (a, none) → RelVs ι S s.heap vs xs → (∀ x μ', q x μ' → PostV c ι S s.heap μ' x Q) → wpAny (model c.prog c.w) A (call (.builtin (listId m)) (.ref a :: vs)) Q E s
noncomputable def dictC (k : Nat) (m : Str) (xs : List V) (μ : Mem) (q : V → Mem → Prop) : Prop := ∀ ⦃c A E s ι S a vs Q⦄, Good c → Room A 0 → Rel c ι S μ s → ι[k]? = some (a, none) → RelVs ι S s.heap vs xs → (∀ x μ', q x μ' → PostV c ι S s.heap μ' x Q) → wpAny (model c.prog c.w) A (call (.builtin (dictId m)) (.ref a :: vs)) Q E s
noncomputable def lstName (m : Str) : Bool := m == "append" || (m == "pop" || m == "extend")
noncomputable def dictName (m : Str) : Bool := m == "pop" || m == "setdefault"
theorem w_methL {m : Str} {args : List Expr} {xs : List V} (hm : μ[k]? = some (.lst xs)) (H : W2 (evs n args h ρ μ) fun vs μ => W2 (lstC k m vs μ) Q) (hl : lstName m = true := by rfl) : W2 (methC n (.ref k) m args h ρ μ) Q := by
 intro c A E s ι S env u pos pl F₀ hns G hr RR r ru K
 refine RR.lstI (P := fun z => wpAny _ _ (getMethod z _ _) _ _ _) ru hm fun a hn => ?_
 have hget : ∀ {Q' : Value × List Value → Shared → Prop}, Q' (.builtin (listId m), [.ref a]) s → wpAny (model c.prog c.w) A (getMethod (.ref a) m pl) Q' E s := by
  intro Q' hq
  refine RR.lstO hn hm fun _ p _ => ?_
  unfold lstName at hl
  rw [Bool.or_eq_true, Bool.or_eq_true, beq_iff_eq, beq_iff_eq, beq_iff_eq] at hl
  rcases hl with rfl | rfl | rfl
  ·exact getMethod_builtin p.typeIs F.plainAttrs_list F.slot_list_append F.type_list_append p.noDict hq
  ·exact getMethod_builtin p.typeIs F.plainAttrs_list F.slot_list_pop F.type_list_pop p.noDict hq
  ·exact getMethod_builtin p.typeIs F.plainAttrs_list F.slot_list_extend F.type_list_extend p.noDict hq
 exact hget (callWith_V (P := fun _ => True) hns (fun _ _ => keeps_builtin _ _) (H hns G hr RR r fun xs' μ₁ _ H us ι₁ s₁ E₁ R₁ rus => ⟨trivial, H G (hr.le (Nat.zero_le _)) R₁ (later_ref hn E₁) rus fun x μ' q => (K _ _ q).step E₁⟩))
theorem w_methD {m : Str} {args : List Expr} {es : List (V × V)} (hm : μ[k]? = some (.dict es)) (H : W2 (evs n args h ρ μ) fun vs μ => W2 (dictC k m vs μ) Q) (hl : dictName m = true := by rfl) : W2 (methC n (.ref k) m args h ρ μ) Q := by
 intro c A E s ι S env u pos pl F₀ hns G hr RR r ru K
 refine RR.dictI (P := fun z => wpAny _ _ (getMethod z _ _) _ _ _) ru hm fun a hn => ?_
 have hget : ∀ {Q' : Value × List Value → Shared → Prop}, Q' (.builtin (dictId m), [.ref a]) s → wpAny (model c.prog c.w) A (getMethod (.ref a) m pl) Q' E s := by
  intro Q' hq
  refine RR.dictO hn hm fun _ p _ _ => ?_
  unfold dictName at hl
  rw [Bool.or_eq_true, beq_iff_eq, beq_iff_eq] at hl
  rcases hl with rfl | rfl
  ·exact getMethod_builtin p.typeIs F.plainAttrs_dict F.slot_dict_pop F.type_dict_pop p.noDict hq
  ·exact getMethod_builtin p.typeIs F.plainAttrs_dict F.slot_dict_setdefault F.type_dict_setdefault p.noDict hq
 exact hget (callWith_V (P := fun _ => True) hns (fun _ _ => keeps_builtin _ _) (H hns G hr RR r fun xs' μ₁ _ H us ι₁ s₁ E₁ R₁ rus => ⟨trivial, H G (hr.le (Nat.zero_le _)) R₁ (later_ref hn E₁) rus fun x μ' q => (K _ _ q).step E₁⟩))
theorem w_isspace {x : Str} (hx : oneLow x = true) (q : Q (.bool false) μ) : W2 (methC n (.str x) "isspace" [] h ρ μ) Q := by
 intro c A E s ι S env u pos pl F hns G hr RR r ru K
 obtain ⟨t, rfl⟩ : ∃ t, u = .str x t := by cases ru; exact ⟨_, rfl⟩
 with_reducible refine GM.isspace ?_
 show wpAny _ _ (callWith pos (.builtin "str.isspace") [.str x t] (backTo pos (starEach [] env)) []) _ _ _
 refine callWith_V (P := fun _ => True) (args := []) (first := [.str x t]) (f := .builtin "str.isspace") rfl (fun _ _ => keeps_builtin _ _) (wpAny_items_nil ⟨trivial, ?_⟩)
 show wpAny _ _ (call (.builtin "str.isspace") [.str x t]) _ _ _
 refine SC.isspace ?_
 rw [low_notSpace hx]
 exact K _ _ q _ ι s (Ext.refl ..) RR (.bool _)
variable {xs ys : List V} {es : List (V × V)} {x v d : V}
theorem w_append (hm : μ[k]? = some (.lst xs)) (hl : xs.length < limit) (q : Q .none (μ.set k (.lst (xs ++ [v])))) : W2 (lstC k "append" [v] μ) Q := by
 intro c A E s ι S a us F G hr RR hn rv K
 exact rv.one (P := fun us => wpAny _ _ (call _ (_ :: us)) _ _ _) fun u ru => append_lst k RR hn hm hl ru (K _ _ q)
theorem w_popL (hm : μ[k]? = some (.lst xs)) (hl : xs.length < limit) (hv : xs.getLast? = some v) (q : Q v (μ.set k (.lst xs.dropLast))) : W2 (lstC k "pop" [] μ) Q := by
 intro c A E s ι S a us F G hr RR hn rv K
 exact rv.nilI (P := fun us => wpAny _ _ (call _ (_ :: us)) _ _ _) (pop_lst k RR hn hm hl hv (K _ _ q))
theorem w_extend (hm : μ[k]? = some (.lst xs)) (hv : listOf v μ = some ys) (hl : xs.length + ys.length < limit) (q : Q .none (μ.set k (.lst (xs ++ ys)))) : W2 (lstC k "extend" [v] μ) Q := by
 intro c A E s ι S a us F G hr RR hn rv K
 exact rv.one (P := fun us => wpAny _ _ (call _ (_ :: us)) _ _ _) fun u ru => extend_lst k RR hn hm hv hl ru (K _ _ q)
theorem w_popD (hm : μ[k]? = some (.dict es)) (hl : (okKey es x && x.atom && decide (es.length < limit)) = true) (hv : dget es x = some v) (q : Q v (μ.set k (.dict (ddel es x)))) : W2 (dictC k "pop" [x] μ) Q := by
 intro c A E s ι S a us F G hr RR hn rv K
 rw [Bool.and_eq_true, Bool.and_eq_true, decide_eq_true_eq] at hl
 exact rv.one (P := fun us => wpAny _ _ (call _ (_ :: us)) _ _ _) fun u ru => pop_dict k hl.1.2 hr.u1' RR hn hm ru hl.1.1 hl.2 hv (K _ _ q)
theorem w_setdef (hm : μ[k]? = some (.dict es)) (hl : (okKey es x && decide (es.length < limit)) = true) (q : match dget es x with | some v => Q v μ | none => Q d (μ.set k (.dict (dput es x d)))) : W2 (dictC k "setdefault" [x, d] μ) Q := by
 intro c A E s ι S a us F G hr RR hn rv K
 rw [Bool.and_eq_true, decide_eq_true_eq] at hl
 exact rv.two (P := fun us => wpAny _ _ (call _ (_ :: us)) _ _ _) fun u v ru rv => setdefault_dict k G.sys hr.u1' RR hn hm ru rv hl.1 hl.2 (fun y e => K _ _ (by rw [e] at q; exact q)) fun e => K _ _ (by rw [e] at q; exact q)
end
end Mine
set_option tactic.hygienic true
set_option tactic.hygienic false
namespace Mine
open PySem.W
abbrev nv (n : Nat) : V := .int n
section
variable {μ : Mem} {k : Nat} {Q : V → Mem → Prop} {xs : List V} {es : List (V × V)} {is : List Int} {v : V} {SQ : Src → Mem → Prop}
theorem w_len (e : itemsOf v μ = some xs) (hl : xs.length < limit) (q : Q (.int xs.length) μ) : W2 (bltn "len" [v] μ) Q := by
 intro c A E s ι S us F G hh hu R rv K
 exact rv.one (P := fun us => wpAny _ _ (call _ us) _ _ _) fun u ru => len_V R ru e hl (K _ _ q)
theorem w_listL (e : listOf v μ = some xs) (hl : xs.length < limit) (q : Q (.ref μ.length) (μ ++ [.lst xs])) : W2 (bltn "list" [v] μ) Q := by
 intro c A E s ι S us F G hh hu R rv K
 refine rv.one (P := fun us => wpAny _ _ (call _ us) _ _ _) fun u ru => ?_
 obtain ⟨a, vs, rfl, p, r⟩ := list_of R ru e
 exact list_lst R p r hl (K _ _ q)
theorem w_listR {lo hi : Int} (hl : okRng lo hi = true) (q : Q (.ref μ.length) (μ ++ [.lst (rngItems lo hi)])) : W2 (bltn "list" [.rng lo hi] μ) Q := by
 intro c A E s ι S us F G hh hu R rv K
 exact rv.one (P := fun us => wpAny _ _ (call _ us) _ _ _) fun u ru => ru.rngI (P := fun u => wpAny _ _ (call _ [u]) _ _ _) fun a t u w p n1 n2 => list_rng hh R p hl (K _ _ q)
theorem w_listD (hm : μ[k]? = some (.dict es)) (hl : es.length < limit) (q : Q (.ref μ.length) (μ ++ [.lst (es.map (·.1))])) : W2 (bltn "list" [.ref k] μ) Q := by
 intro c A E s ι S us F G hh hu R rv K
 exact rv.one (P := fun us => wpAny _ _ (call _ us) _ _ _) fun u ru => R.dictI (P := fun u => wpAny _ _ (call _ [u]) _ _ _) ru hm fun a hn => list_dict _ hh G.sys R hn hm hl (K _ _ q)
theorem w_tupT (q : Q (.tup xs) μ) : W2 (bltn "tuple" [.tup xs] μ) Q := by
 intro c A E s ι S us F G hh hu R rv K
 exact rv.one (P := fun us => wpAny _ _ (call _ us) _ _ _) fun u ru => ru.tupI (P := fun u => wpAny _ _ (call _ [u]) _ _ _) fun a us p n1 n2 r => call_tuple_same p.isTuple (K _ _ q _ ι s (Ext.refl ..) R (.tup p n1 n2 r))
theorem w_tupL (hl : xs.length < limit) (q : Q (.tup xs) μ) : W2 (bltn "tuple" [.lst xs] μ) Q := by
 intro c A E s ι S us F G hh hu R rv K
 exact rv.one (P := fun us => wpAny _ _ (call _ us) _ _ _) fun u ru => ru.seqI (P := fun u => wpAny _ _ (call _ [u]) _ _ _) fun a vs p n1 n2 r => tuple_lst R p r hl (K _ _ q)
theorem w_dictL (e : PairsD xs [] es) (q : Q (.ref μ.length) (μ ++ [.dict es])) : W2 (bltn "dict" [.lst xs] μ) Q := by
 intro c A E s ι S us F G hh hu R rv K
 exact rv.one (P := fun us => wpAny _ _ (call _ us) _ _ _) fun u ru => ru.seqI (P := fun u => wpAny _ _ (call _ [u]) _ _ _) fun a vs p n1 n2 r => dict_lst hh hu R p n1 r e (K _ _ q)
theorem w_rng1 {hi : Int} (q : Q (.rng 0 hi) μ) : W2 (bltn "range" [.int hi] μ) Q := by
 intro c A E s ι S us F G hh hu R rv K
 exact rv.one (P := fun us => wpAny _ _ (call _ us) _ _ _) fun u ru => ru.intI (P := fun u => wpAny _ _ (call _ [u]) _ _ _) fun t => range_1 R (K _ _ q)
theorem w_sorted (e : listOf v μ = some xs) (e2 : ints? xs = some is) (hl : is.length < 64) (q : Q (.lst ((sortI is).map .int)) μ) : W2 (bltn "sorted" [v] μ) Q := by
 intro c A E s ι S us F G hh hu R rv K
 refine rv.one (P := fun us => wpAny _ _ (call _ us) _ _ _) fun u ru => ?_
 obtain ⟨a, vs, rfl, p, r⟩ := list_of R ru e
 exact sorted_lst R p r e2 hl (K _ _ q)
theorem w_sum (e2 : ints? xs = some is) (q : Q (.int is.sum) μ) : W2 (bltn "sum" [.lst xs] μ) Q := by
 intro c A E s ι S us F G hh hu R rv K
 exact rv.one (P := fun us => wpAny _ _ (call _ us) _ _ _) fun u ru => ru.seqI (P := fun u => wpAny _ _ (call _ [u]) _ _ _) fun a vs p n1 n2 r => sum_lst hh R p r e2 (K _ _ q)
theorem w_maxL {i : Int} {r : List Int} (e2 : ints? xs = some (i :: r)) (q : Q (.int (r.foldl max i)) μ) : W2 (bltn "max" [.lst xs] μ) Q := by
 intro c A E s ι S us F G hh hu R rv K
 exact rv.one (P := fun us => wpAny _ _ (call _ us) _ _ _) fun u ru => ru.seqI (P := fun u => wpAny _ _ (call _ [u]) _ _ _) fun a vs p n1 n2 r => max_lst hh R p r e2 (K _ _ q)
theorem w_max2 {a b : Int} (q : Q (.int (max a b)) μ) : W2 (bltn "max" [.int a, .int b] μ) Q := by
 intro c A E s ι S us F G hh hu R rv K
 exact rv.two (P := fun us => wpAny _ _ (call _ us) _ _ _) fun u v ru rv => ru.intI (P := fun u => wpAny _ _ (call _ [u, _]) _ _ _) fun t => rv.intI (P := fun u => wpAny _ _ (call _ [_, u]) _ _ _) fun t' => max_2 hh R (K _ _ q)
theorem w_intI {a : Int} (q : Q (.int a) μ) : W2 (bltn "int" [.int a] μ) Q := by
 intro c A E s ι S us F G hh hu R rv K
 exact rv.one (P := fun us => wpAny _ _ (call _ us) _ _ _) fun u ru => ru.intI (P := fun u => wpAny _ _ (call _ [u]) _ _ _) fun t => call_int_int (K _ _ q _ ι s (Ext.refl ..) R (.int _ _))
theorem w_sofL (q : SQ (.vals xs) μ) : W2 (sof (.lst xs) μ) SQ := sofL q
theorem w_sofT (q : SQ (.vals xs) μ) : W2 (sof (.tup xs) μ) SQ := sofT q
theorem w_sofR (hm : μ[k]? = some (.lst xs)) (q : SQ (.ref k) μ) : W2 (sof (.ref k) μ) SQ := sofR hm q
theorem w_sofG {lo hi : Int} (hl : okRng lo hi = true) (q : SQ (.vals (rngItems lo hi)) μ) : W2 (sof (.rng lo hi) μ) SQ := sofG hl q
theorem w_sofS {x : Str} (q : SQ (.vals (x.cps.toList.map fun c => .str ⟨#[c]⟩)) μ) : W2 (sof (.str x) μ) SQ := sofS q
theorem w_itT {xs : List V} {Q : List V → Prop} (q : Q xs) : W1 (itemsOf (.tup xs) μ) Q := ⟨_, rfl, q⟩
theorem w_itL {xs : List V} {Q : List V → Prop} (q : Q xs) : W1 (itemsOf (.lst xs) μ) Q := ⟨_, rfl, q⟩
theorem map_self {α : Type} (o : Option α) : o.map (fun v => v) = o := by cases o <;> rfl
theorem at_vals {xs : List V} {i : Nat} : (Src.vals xs).at i μ = some (xs[i]?.map fun v => (Src.vals xs).wrap i v) := congrArg some (map_self _).symm
theorem at_ref {k : Nat} {xs : List V} {i : Nat} (hm : μ[k]? = some (.lst xs)) : (Src.ref k).at i μ = some (xs[i]?.map fun v => (Src.ref k).wrap i v) := (congrArg (Option.map fun vs : List V => vs[i]?) (lstAt_of hm)).trans (congrArg some (map_self _).symm)
theorem at_enumv {xs : List V} {i : Nat} : (Src.enum (.vals xs)).at i μ = some (xs[i]?.map fun v => (Src.enum (.vals xs)).wrap i v) := rfl
end
noncomputable def nthM (k j : Nat) : Stmt := match PySem.Challenge.pw_rg0125_01.main.body[k]? with
 | some (.ClassDef _ _ _ b _ _ _ _ _ _ _) => (b[j]?).getD (.Pass default)
 | some s => s
 | none => .Pass default
noncomputable def meths : List ((Str × Str) × Str × Nat × Nat) := [
 (("Bank", "__init__"), "Bank", 6, 0), (("Bank", "size"), "Bank", 6, 1), (("Bank", "take"), "Bank", 6, 2), (("Bank", "require"), "Bank", 6, 3), (("Bank", "op"), "Bank", 6, 7), (("Bank", "kids"), "Bank", 6, 8),
 (("Unions", "__init__"), "Unions", 8, 0), (("Unions", "make"), "Unions", 8, 1), (("Unions", "size"), "Unions", 8, 2), (("Unions", "find"), "Unions", 8, 3), (("Unions", "merge"), "Unions", 8, 4), (("Unions", "classes"), "Unions", 8, 6), (("Unions", "back"), "Unions", 8, 8),
 (("Levels", "__init__"), "Levels", 12, 0), (("Levels", "size"), "Heap", 10, 1), (("Levels", "node"), "Heap", 10, 2), (("Levels", "add"), "Heap", 10, 3), (("Levels", "find"), "Heap", 10, 6), (("Levels", "are_like"), "Heap", 10, 7), (("Levels", "merge"), "Heap", 10, 8),
 (("Levels", "settle"), "Heap", 10, 10), (("Levels", "classes"), "Heap", 10, 12), (("Levels", "depth"), "Levels", 12, 1), (("Levels", "push"), "Levels", 12, 2), (("Levels", "pop"), "Levels", 12, 3), (("Levels", "look_at"), "Levels", 12, 4), (("Levels", "join"), "Levels", 12, 5), (("Levels", "unjoin"), "Levels", 12, 7),
 (("Trial", "__init__"), "Trial", 13, 0), (("Trial", "tried"), "Trial", 13, 1), (("Trial", "would"), "Trial", 13, 2), (("Trial", "causes"), "Trial", 13, 5)]
theorem meths_ok : meths.map (fun e => methodOf e.1.1 e.1.2) = meths.map fun e => some (e.2.1, nthM e.2.2.1 e.2.2.2) := by kernel_rfl
theorem meth_of {C m D : Str} {k j : Nat} (h : ((C, m), D, k, j) ∈ meths) : methodOf C m = some (D, nthM k j) := List.map_inj_left.mp meths_ok _ h
theorem meth_at {C m D : Str} {k j : Nat} (i : Nat) (h : meths[i]? = some ((C, m), D, k, j)) : methodOf C m = some (D, nthM k j) := meth_of (List.mem_of_getElem? h)
theorem fn_tick : topFn "_law_tick" = some (nthM 15 0) := by kernel_rfl
theorem fn_like : topFn "_law_are_like" = some (nthM 16 0) := by kernel_rfl
theorem fn_due : topFn "_law_due" = some (nthM 17 0) := by kernel_rfl
theorem fn_pairs : topFn "_law_pairs" = some (nthM 18 0) := by kernel_rfl
theorem fn_isop : topFn "is_op" = some (nthM 5 0) := by kernel_rfl
theorem fn_law : topDef "law" = some (nthM 19 0) := by kernel_rfl
theorem sup_init : superOf "Levels" "Levels" "__init__" = some (("Heap" : Str), nthM 10 0) := by kernel_rfl
theorem sup_look : superOf "Levels" "Levels" "look_at" = some (("Heap" : Str), nthM 10 5) := by kernel_rfl
theorem sup_join : superOf "Levels" "Levels" "join" = some (("Heap" : Str), nthM 10 9) := by kernel_rfl
theorem mo_Bank_init : methodOf "Bank" "__init__" = some (("Bank" : Str), nthM 6 0) := meth_at 0 rfl
theorem mo_Bank_size : methodOf "Bank" "size" = some (("Bank" : Str), nthM 6 1) := meth_at 1 rfl
theorem mo_Bank_take : methodOf "Bank" "take" = some (("Bank" : Str), nthM 6 2) := meth_at 2 rfl
theorem mo_Bank_require : methodOf "Bank" "require" = some (("Bank" : Str), nthM 6 3) := meth_at 3 rfl
theorem mo_Bank_op : methodOf "Bank" "op" = some (("Bank" : Str), nthM 6 7) := meth_at 4 rfl
theorem mo_Bank_kids : methodOf "Bank" "kids" = some (("Bank" : Str), nthM 6 8) := meth_at 5 rfl
theorem mo_Unions_init : methodOf "Unions" "__init__" = some (("Unions" : Str), nthM 8 0) := meth_at 6 rfl
theorem mo_Unions_make : methodOf "Unions" "make" = some (("Unions" : Str), nthM 8 1) := meth_at 7 rfl
theorem mo_Unions_size : methodOf "Unions" "size" = some (("Unions" : Str), nthM 8 2) := meth_at 8 rfl
theorem mo_Unions_find : methodOf "Unions" "find" = some (("Unions" : Str), nthM 8 3) := meth_at 9 rfl
theorem mo_Unions_merge : methodOf "Unions" "merge" = some (("Unions" : Str), nthM 8 4) := meth_at 10 rfl
theorem mo_Unions_classes : methodOf "Unions" "classes" = some (("Unions" : Str), nthM 8 6) := meth_at 11 rfl
theorem mo_Unions_back : methodOf "Unions" "back" = some (("Unions" : Str), nthM 8 8) := meth_at 12 rfl
theorem mo_Levels_init : methodOf "Levels" "__init__" = some (("Levels" : Str), nthM 12 0) := meth_at 13 rfl
theorem mo_Levels_size : methodOf "Levels" "size" = some (("Heap" : Str), nthM 10 1) := meth_at 14 rfl
theorem mo_Levels_node : methodOf "Levels" "node" = some (("Heap" : Str), nthM 10 2) := meth_at 15 rfl
theorem mo_Levels_add : methodOf "Levels" "add" = some (("Heap" : Str), nthM 10 3) := meth_at 16 rfl
theorem mo_Levels_find : methodOf "Levels" "find" = some (("Heap" : Str), nthM 10 6) := meth_at 17 rfl
theorem mo_Levels_are_like : methodOf "Levels" "are_like" = some (("Heap" : Str), nthM 10 7) := meth_at 18 rfl
theorem mo_Levels_merge : methodOf "Levels" "merge" = some (("Heap" : Str), nthM 10 8) := meth_at 19 rfl
theorem mo_Levels_settle : methodOf "Levels" "settle" = some (("Heap" : Str), nthM 10 10) := meth_at 20 rfl
theorem mo_Levels_classes : methodOf "Levels" "classes" = some (("Heap" : Str), nthM 10 12) := meth_at 21 rfl
theorem mo_Levels_depth : methodOf "Levels" "depth" = some (("Levels" : Str), nthM 12 1) := meth_at 22 rfl
theorem mo_Levels_push : methodOf "Levels" "push" = some (("Levels" : Str), nthM 12 2) := meth_at 23 rfl
theorem mo_Levels_pop : methodOf "Levels" "pop" = some (("Levels" : Str), nthM 12 3) := meth_at 24 rfl
theorem mo_Levels_look_at : methodOf "Levels" "look_at" = some (("Levels" : Str), nthM 12 4) := meth_at 25 rfl
theorem mo_Levels_join : methodOf "Levels" "join" = some (("Levels" : Str), nthM 12 5) := meth_at 26 rfl
theorem mo_Levels_unjoin : methodOf "Levels" "unjoin" = some (("Levels" : Str), nthM 12 7) := meth_at 27 rfl
theorem mo_Trial_init : methodOf "Trial" "__init__" = some (("Trial" : Str), nthM 13 0) := meth_at 28 rfl
theorem mo_Trial_tried : methodOf "Trial" "tried" = some (("Trial" : Str), nthM 13 1) := meth_at 29 rfl
theorem mo_Trial_would : methodOf "Trial" "would" = some (("Trial" : Str), nthM 13 2) := meth_at 30 rfl
theorem mo_Trial_causes : methodOf "Trial" "causes" = some (("Trial" : Str), nthM 13 5) := meth_at 31 rfl
end Mine
set_option tactic.hygienic true
set_option tactic.hygienic false
namespace Mine
open PySem.W
/-- what may be worked out at once -/
noncomputable def pes (f : Expr → Option V) : List Expr → Option (List V)
 | [] => some []
 | e :: r => match f e with
  | some v => (match pes f r with | some vs => some (v :: vs) | none => none)
  | none => none
noncomputable def pcon : Const → Option V
 | .int i => some (.int i)
 | .str x => some (.str x)
 | .bool b => some (.bool b)
 | .none => some .none
 | _ => none
noncomputable def pbin (op : Operator) (x y : Int) : Option V := match op with
 | .Add => some (.int (x + y))
 | .Sub => some (.int (x - y))
 | _ => none
noncomputable def pcmp (op : CmpOp) (x y : Int) : Option Bool := match op with
 | .Eq => some (decide (x = y))
 | .NotEq => some (!decide (x = y))
 | .Lt => some (decide (x < y))
 | .LtE => some (decide (x ≤ y))
 | .Gt => some (decide (y < x))
 | _ => none
noncomputable def patt (a : Str) (μ : Mem) (v : V) : Option V := match v with
 | .ref k => (match μ[k]? with
  | some (.inst _ fs) => if attrTable.contains a then fs.lookup a else none
  | _ => none)
 | _ => none
noncomputable def int? : Option V → Option Int
 | some (.int i) => some i
 | _ => none
noncomputable def pe (h : Here) (l : Loc) (μ : Mem) : Nat → Expr → Option V
 | 0, _ => none
 | n + 1, e => match e with
  | .Name x _ => if isLoc h.sc x then l.lookup x else none
  | .Constant c _ _ => pcon c
  | .Attribute o a _ => if isSup o then none else (pe h l μ n o).bind (patt a μ)
  | .Tuple es _ _ => if tupOk es then (pes (pe h l μ n) es).map .tup else none
  | .BinOp a op b _ => (int? (pe h l μ n a)).bind fun x => (int? (pe h l μ n b)).bind (pbin op x)
  | _ => none
noncomputable def pt (h : Here) (l : Loc) (μ : Mem) (a b : Expr) (op : CmpOp) : Option Bool := (int? (pe h l μ 6 a)).bind fun x => (int? (pe h l μ 6 b)).bind (pcmp op x)
theorem bsI {α β : Type} {P : Prop} {o : Option α} {f : α → Option β} {r : β} (h : o.bind f = some r) (k : ∀ a, o = some a → f a = some r → P) : P := by
 cases o with
 | none => cases h
 | some a => exact k a rfl h
theorem bsT {α : Type} {P : Prop} {c : Bool} {o : Option α} {r : α} (h : (if c = true then o else none) = some r) (k : c = true → o = some r → P) : P := by
 cases c with
 | false => cases h
 | true => exact k rfl h
theorem bsF {α : Type} {P : Prop} {c : Bool} {o : Option α} {r : α} (h : (if c = true then none else o) = some r) (k : c = false → o = some r → P) : P := by
 cases c with
 | true => cases h
 | false => exact k rfl h
theorem int?_eq {o : Option V} {i : Int} (h : int? o = some i) : o = some (.int i) := by
 cases o with
 | none => cases h
 | some v => cases v <;> first | (cases h; rfl) | cases h
section
variable {n : Nat} {h : Here} {ρ l : Loc} {μ : Mem}
theorem pes_ok {f : Expr → Option V} (hf : ∀ e v, f e = some v → ∀ Q : V → Mem → Prop, Q v μ → W2 (ev n e h ρ μ) Q) : ∀ {es : List Expr} {vs : List V}, pes f es = some vs → ∀ {Q : List V → Mem → Prop}, Q vs μ → W2 (evs n es h ρ μ) Q := by
 intro es
 induction es with
 | nil => intro vs e Q q; cases e; exact w_nil q
 | cons a r ih =>
  intro vs e Q q
  unfold pes at e
  cases ha : f a with
  | none => rw [ha] at e; exact nomatch e
  | some v =>
   rw [ha] at e
   cases hr : pes f r with
   | none => rw [hr] at e; exact nomatch e
   | some ws =>
    rw [hr] at e
    cases e
    exact w_cons (hf a v ha _ (ih hr q))
theorem pe_ok (L : ∀ x v, l.lookup x = some v → ρ.lookup x = some v) : ∀ (k : Nat) (e : Expr) (v : V), pe h l μ k e = some v → ∀ Q : V → Mem → Prop, Q v μ → W2 (ev n e h ρ μ) Q := by
 intro k
 induction k with
 | zero => exact fun _ _ e => nomatch e
 | succ k ih =>
  intro e v he Q q
  induction e using PySem.Expr.casesOn with
  | Name x p => exact bsT he fun h1 h2 => w_name h1 (L _ _ h2) q
  | Constant c => induction c using PySem.Const.casesOn with
   | int => cases he; exact w_int q
   | str => cases he; exact w_str q
   | bool => cases he; exact w_bool q
   | none => cases he; exact w_cnone q
   | _ => exact nomatch he
  | Attribute o a p =>
   refine bsF he fun ho he => bsI he fun w hw he => w_attr ho (ih o w hw _ ?_)
   cases w with
   | ref k =>
    change (match μ[k]? with | some (.inst _ fs) => if attrTable.contains a then fs.lookup a else none | _ => none) = some v at he
    cases hm : μ[k]? with
    | none => rw [hm] at he; exact nomatch he
    | some ob => cases ob with
     | inst C fs => rw [hm] at he; exact bsT he fun ha hl => w_attrV hm ha hl q
     | _ => rw [hm] at he; exact nomatch he
   | _ => exact nomatch he
  | Tuple es k' p => exact bsT he fun ho he => (Option.map_eq_some_iff.mp he).elim fun vs z => w_tuple ho (pes_ok ih z.1 (z.2 ▸ q))
  | BinOp a op b p =>
   refine bsI he fun x hx he => bsI he fun y hy he => w_binop (ih a _ (int?_eq hx) _ (ih b _ (int?_eq hy) _ ?_))
   cases op <;> first | (cases he; exact w_addI q) | (cases he; exact w_subI q) | exact nomatch he
  | _ => exact nomatch he
theorem behind_of {k : Nat} {e : Expr} {v : V} {op : CmpOp} (he : pe h l μ k e = some v) : behindInMarks op e = false := by
 induction e using PySem.Expr.casesOn <;> first | rfl | (cases k <;> exact nomatch he)
theorem pt_ok (L : ∀ x v, l.lookup x = some v → ρ.lookup x = some v) {a b : Expr} {op : CmpOp} {p : Pos} {r : Bool} {Q : Bool → Mem → Prop} (he : pt h l μ a b op = some r) (q : Q r μ) : W2 (tst n (.Compare a [op] [b] p) h ρ μ) Q := by
 refine bsI he fun x hx he => bsI he fun y hy he => w_tcmp (behind_of (int?_eq hy)) (pe_ok L 6 a _ (int?_eq hx) _ (pe_ok L 6 b _ (int?_eq hy) _ ?_))
 cases op <;> first | (cases he; first | exact w_eqI q | exact w_neI q | exact w_ltI q | exact w_leI q | exact w_gtI q) | exact nomatch he
theorem w_pe {e : Expr} {v : V} {Q : V → Mem → Prop} (he : pe h ρ μ 6 e = some v) (q : Q v μ) : W2 (ev n e h ρ μ) Q := pe_ok (fun _ _ e => e) 6 e v he Q q
theorem w_pes {es : List Expr} {vs : List V} {Q : List V → Mem → Prop} (he : pes (pe h ρ μ 6) es = some vs) (q : Q vs μ) : W2 (evs n es h ρ μ) Q := pes_ok (pe_ok (fun _ _ e => e) 6) he q
theorem w_pt {a b : Expr} {op : CmpOp} {p : Pos} {r : Bool} {Q : Bool → Mem → Prop} (he : pt h ρ μ a b op = some r) (q : Q r μ) : W2 (tst n (.Compare a [op] [b] p) h ρ μ) Q := pt_ok (fun _ _ e => e) he q
variable {p p' : Pos} {Q : V → Mem → Prop}
theorem w_cM {o : Expr} {m : Str} {args : List Expr} (hc : callOk (.Attribute o m p') args p = true) (H : W2 (ev n o h ρ μ) fun w μ => W2 (methC n w m args h ρ μ) Q) : W2 (ev n (.Call (.Attribute o m p') args [] p) h ρ μ) Q := w_call hc (w_callM H)
theorem w_cN {f : Str} {args : List Expr} (hc : callOk (.Name f p') args p = true) (hk : known f = true) (hg : isGlob h.sc f = true) (H : W2 (evs n args h ρ μ) fun vs μ => W2 (glob n f vs μ) Q) : W2 (ev n (.Call (.Name f p') args [] p) h ρ μ) Q := w_call hc (w_callN hk hg H)
end
end Mine
set_option tactic.hygienic true
set_option tactic.hygienic false
namespace Mine
open PySem.W
noncomputable def fdOf (o : Option Obj) : FuncData := match o with
 | some ⟨_, _, .func fd, _⟩ => fd
 | _ => default
noncomputable def fnOf (a : Addr) (o : Option Obj) (fd : FuncData) : Fn :=
 ⟨a, (o.map (·.cls)).getD .none, o.bind (·.dict), (o.map (·.slots)).getD #[], fd.name, fd.qualname, fd.params, fd.body.casesOn (fun b => b) fun _ => [], fd.scope, fd.closure, fd.kwdefaults, fd.doc, fd.pyModule, fd.annotations, fd.code, fd.closureTuple⟩
noncomputable def fnAt (K : Frag) (a : Addr) : Fn := fnOf a (K.lookup a) (fdOf (K.lookup a))
noncomputable def fnObj (x : Fn) : Obj := ⟨x.oc, x.od, .func x.data, x.osl⟩
/-- the address that was found -/
noncomputable def vref (o : Option (Option Value)) : Addr := match o with
 | some (some (.ref a)) => a
 | _ => 0
noncomputable def clsAddr (K : Frag) (C : Str) : Option Addr := if (("Heap" : Str) :: clsTable).contains C then some (vref (nsIn K mainGlobals C)) else none
noncomputable def fnOkB (c : Cx) (x : Fn) : Bool := decide (x.oc = .type "function" ∧ codeIn c.K x.cdv x.qual = true ∧ x.params.posonlyargs = [] ∧ x.params.vararg = none ∧ x.params.kwonlyargs = [] ∧ x.params.kwarg = none ∧
 (x.params.args.map (·.arg)).Nodup ∧ x.sc.kind = .function ∧ x.sc.isCoroutine = false ∧ x.sc.isGenerator = false ∧ (x.sc.names.map (·.1)).Nodup ∧ (x.cl.Pairwise fun a b => a.2 ≠ b.2) ∧
 (∀ p ∈ x.cl, x.sc.names.lookup p.1 ≠ some .cell ∧ (c.K.lookup p.2).isSome = true) ∧ ∀ p ∈ x.sc.names, p.2 = .free → isLoc x.sc p.1 = false)
theorem fnOkB_ok {c : Cx} {x : Fn} {D : Str} (e : c.K.lookup x.f = some (fnObj x)) (h : fnOkB c x = true) (u : (x.sc.names.lookup ("super" : Str)).isSome = false ∨ SupFn c x D) : FnOk c x D :=
 have h := of_decide_eq_true h
 have h6 := h.2.2.2.2.2
 have h11 := h6.2.2.2.2.2
 ⟨e, h.1, h.2.1, h.2.2.1, h.2.2.2.1, h.2.2.2.2.1, h6.1, h6.2.1, h6.2.2.1, h6.2.2.2.1, h6.2.2.2.2.1, h11.1, h11.2.1, h11.2.2.1, fun y hy hf => Bool.false_ne_true ((h11.2.2.2 _ (mem_of_lookup hf) rfl).symm.trans hy), u⟩
noncomputable def parts (d : Str × List Expr × Option Expr × List TypeParam × Option Scope × Str × Pos) (s : Stmt) : Str × List Expr × Option Expr × List TypeParam × Option Scope × Str × Pos :=
 @Stmt.casesOn (fun _ => Str × List Expr × Option Expr × List TypeParam × Option Scope × Str × Pos) s (fun a _ _ dl rt tp _ ts bd p => (a, dl, rt, tp, ts, bd, p)) (fun _ _ _ _ _ _ _ _ _ _ => d) (fun _ _ _ _ _ _ _ _ _ _ _ => d) (fun _ _ => d) (fun _ _ => d) (fun _ _ _ => d) (fun _ _ _ _ _ _ _ => d) (fun _ _ _ _ => d) (fun _ _ _ _ _ => d) (fun _ _ _ _ _ => d) (fun _ _ _ _ _ => d) (fun _ _ _ _ => d) (fun _ _ _ _ => d) (fun _ _ _ => d) (fun _ _ _ => d) (fun _ _ _ => d) (fun _ _ _ => d) (fun _ _ _ _ _ => d) (fun _ _ _ _ _ => d) (fun _ _ _ => d) (fun _ _ => d) (fun _ _ _ _ => d) (fun _ _ => d) (fun _ _ => d) (fun _ _ => d) (fun _ => d) (fun _ => d) (fun _ => d)
/-- the same statement with the def's own parts put in -/
noncomputable def rebuild (x : Fn) (s : Stmt) : Stmt := let p := parts (Str.empty, [], none, [], none, Str.empty, default) s; .FunctionDef p.1 x.params x.body p.2.1 p.2.2.1 p.2.2.2.1 x.sc p.2.2.2.2.1 p.2.2.2.2.2.1 p.2.2.2.2.2.2
theorem rebuild_ok {x : Fn} {d : Stmt} (h : d = rebuild x d) : x.Is d := ⟨_, _, _, _, _, _, _, h⟩
noncomputable def clsA (c : Cx) (C : Str) : Addr := (c.cls C).getD 0
noncomputable def addrM (c : Cx) (C m : Str) : Addr := vref (findIn c.K (.ref (clsA c C)) m)
noncomputable def addrS (c : Cx) (C at_ m : Str) : Addr := vref (ks_superIn c.K (clsA c C) (clsA c at_) m)
noncomputable def addrF (c : Cx) (f : Str) : Addr := vref (nsIn c.K mainGlobals f)
/-- the functions that call super(): each with its class -/
noncomputable def supDefs : List (Str × Str × Str) := [("Levels", "__init__", "Levels"), ("Levels", "look_at", "Levels"), ("Levels", "join", "Levels")]
noncomputable def bodyOk (c : Cx) (a : Addr) (D : Str) : Bool := !((fnAt c.K a).sc.names.lookup ("super" : Str)).isSome || supDefs.any fun p => decide (addrM c p.1 p.2.1 = a) && decide (p.2.2 = D)
noncomputable def okM (c : Cx) (p : Str × Str) : Bool := decide (c.cls p.1 = some (clsA c p.1) ∧ findIn c.K (.ref (clsA c p.1)) p.2 = some (some (.ref (addrM c p.1 p.2))) ∧ fnOkB c (fnAt c.K (addrM c p.1 p.2)) = true ∧ ((methodOf p.1 p.2).all fun q => bodyOk c (addrM c p.1 p.2) q.1) = true)
theorem okM_ok {c : Cx} {C m : Str} (h : okM c (C, m) = true) : c.cls C = some (clsA c C) ∧ findIn c.K (.ref (clsA c C)) m = some (some (.ref (addrM c C m))) ∧ fnOkB c (fnAt c.K (addrM c C m)) = true ∧ ((methodOf C m).all fun q => bodyOk c (addrM c C m) q.1) = true := of_decide_eq_true h
noncomputable def okS (c : Cx) (p : Str × Str × Str) : Bool := decide ((c.cls p.1 = some (clsA c p.1) ∧ c.cls p.2.1 = some (clsA c p.2.1) ∧ mroIn c.K (clsA c p.1) (.ref (clsA c p.2.1)) = some true ∧ ks_superIn c.K (clsA c p.1) (clsA c p.2.1) p.2.2 = some (some (.ref (addrS c p.1 p.2.1 p.2.2))) ∧ (p.2.2 == ("__class__" : Str)) = false) ∧
 fnOkB c (fnAt c.K (addrS c p.1 p.2.1 p.2.2)) = true ∧ ((superOf p.1 p.2.1 p.2.2).all fun q => bodyOk c (addrS c p.1 p.2.1 p.2.2) q.1) = true)
theorem okS_ok {c : Cx} {C at_ m : Str} (h : okS c (C, at_, m) = true) : (c.cls C = some (clsA c C) ∧ c.cls at_ = some (clsA c at_) ∧ mroIn c.K (clsA c C) (.ref (clsA c at_)) = some true ∧ ks_superIn c.K (clsA c C) (clsA c at_) m = some (some (.ref (addrS c C at_ m))) ∧ (m == ("__class__" : Str)) = false) ∧
 fnOkB c (fnAt c.K (addrS c C at_ m)) = true ∧ ((superOf C at_ m).all fun q => bodyOk c (addrS c C at_ m) q.1) = true := of_decide_eq_true h
noncomputable def okF (c : Cx) (f : Str) : Bool := decide (nsIn c.K mainGlobals f = some (some (.ref (addrF c f)))) && (fnOkB c (fnAt c.K (addrF c f)) && bodyOk c (addrF c f) Str.empty)
structure Facts (c : Cx) : Prop where
 m1 : methTable.all (okM c) = true
 m2 : methTable.map (fun p => c.K.lookup (addrM c p.1 p.2)) = methTable.map fun p => some (fnObj (fnAt c.K (addrM c p.1 p.2)))
 m3 : methTable.map (fun p => (methodOf p.1 p.2).map (·.2)) = methTable.map fun p => (methodOf p.1 p.2).map fun q => rebuild (fnAt c.K (addrM c p.1 p.2)) q.2
 s1 : supTable.all (okS c) = true
 s2 : supTable.map (fun p => c.K.lookup (addrS c p.1 p.2.1 p.2.2)) = supTable.map fun p => some (fnObj (fnAt c.K (addrS c p.1 p.2.1 p.2.2)))
 s3 : supTable.map (fun p => (superOf p.1 p.2.1 p.2.2).map (·.2)) = supTable.map fun p => (superOf p.1 p.2.1 p.2.2).map fun q => rebuild (fnAt c.K (addrS c p.1 p.2.1 p.2.2)) q.2
 f1 : fnTable.all (okF c) = true
 f2 : fnTable.map (fun f => c.K.lookup (addrF c f)) = fnTable.map fun f => some (fnObj (fnAt c.K (addrF c f)))
 f3 : fnTable.map topFn = fnTable.map fun f => (topFn f).map (rebuild (fnAt c.K (addrF c f)))
 sp : ∀ p ∈ supDefs, SupFn c (fnAt c.K (addrM c p.1 p.2.1)) p.2.2
noncomputable def cellOf (o : Option Obj) : Addr := match o with
 | some ⟨_, _, .cell (some (.ref a)), _⟩ => a
 | _ => 0
noncomputable def fldOf (o : Option Obj) : Array Value := match o with
 | some ⟨_, _, Data.fields vs, _⟩ => vs
 | _ => #[]
noncomputable def strOf (v : Value) : Str × Tok := match v with
 | .str x t => (x, t)
 | _ => (Str.empty, 0)
/-- what super() asks, each a matter of computing -/
theorem sup_one {c : Cx} {x : Fn} {D : Str} (h1 : x.sc.names.lookup ("super" : Str) = some .globalImplicit) (h2 : x.sc.names.lookup ("__class__" : Str) = some .free) (h3 : (x.params.posonlyargs ++ x.params.args).head?.map (·.arg) = some ("self" : Str)) (h4 : x.sc.names.lookup ("self" : Str) = some .local)
  (h5 : x.cl = [(("__class__" : Str), ((x.cl.head?.map (·.2)).getD 0))]) (h6 : c.K.lookup ((x.cl.head?.map (·.2)).getD 0) = some ⟨((c.K.lookup ((x.cl.head?.map (·.2)).getD 0)).map (·.cls)).getD .none, (c.K.lookup ((x.cl.head?.map (·.2)).getD 0)).bind (·.dict), .cell (some (.ref (cellOf (c.K.lookup ((x.cl.head?.map (·.2)).getD 0))))), ((c.K.lookup ((x.cl.head?.map (·.2)).getD 0)).map (·.slots)).getD #[]⟩)
  (h7 : c.cls D = some (cellOf (c.K.lookup ((x.cl.head?.map (·.2)).getD 0))) ∧ (clsIn c.K (cellOf (c.K.lookup ((x.cl.head?.map (·.2)).getD 0)))).isSome = true)
  (h8 : x.cdv = .ref (vref (some (some x.cdv)))) (h9 : c.K.lookup (vref (some (some x.cdv))) = some ⟨((c.K.lookup (vref (some (some x.cdv)))).map (·.cls)).getD .none, (c.K.lookup (vref (some (some x.cdv)))).bind (·.dict), .fields (fldOf (c.K.lookup (vref (some (some x.cdv))))), ((c.K.lookup (vref (some (some x.cdv)))).map (·.slots)).getD #[]⟩)
  (h10 : (fldOf (c.K.lookup (vref (some (some x.cdv)))))[2]? = some (.str (strOf ((fldOf (c.K.lookup (vref (some (some x.cdv)))))[2]?.getD .none)).1 (strOf ((fldOf (c.K.lookup (vref (some (some x.cdv)))))[2]?.getD .none)).2)) (h11 : ((c.prog.main.file : Str) == (strOf ((fldOf (c.K.lookup (vref (some (some x.cdv)))))[2]?.getD .none)).1) = true) : SupFn c x D :=
 ⟨h1, h2, Option.map_eq_some_iff.mp h3, h4, ⟨_, _, _, _, _, h5, h6, h7.1, h7.2⟩, ⟨_, _, _, _, _, _, _, h8, h9, h10, h11⟩⟩
theorem if_some {α : Type} {b : Bool} {o : Option α} {x : α} (h : (if b = true then o else none) = some x) : b = true ∧ o = some x := by
 cases b with
 | true => exact ⟨rfl, h⟩
 | false => exact nn h
theorem bodyOk_ok {c : Cx} (T : Facts c) {a : Addr} {D : Str} (h : bodyOk c a D = true) : ((fnAt c.K a).sc.names.lookup ("super" : Str)).isSome = false ∨ SupFn c (fnAt c.K a) D := by
 rcases Bool.or_eq_true_iff.mp h with h | h
 ·exact .inl ((Bool.not_eq_true' _).mp h)
 ·obtain ⟨p, hp, q⟩ := List.any_eq_true.mp h
  obtain rfl := of_decide_eq_true (aL q)
  obtain rfl := of_decide_eq_true (aR q)
  exact .inr (T.sp p hp)
theorem allO {α : Type} {o : Option α} {q : α} {p : α → Bool} (h : o = some q) (e : o.all p = true) : p q = true := (congrArg (Option.all p) h).symm.trans e
theorem rebuilt {α : Type} {o : Option α} {q : α} {x : Fn} {f : α → Stmt} (h : o = some q) (e : o.map f = o.map fun q => rebuild x (f q)) : x.Is (f q) := by
 cases h; exact rebuild_ok (Option.some.inj e)
theorem Facts.meth {c : Cx} (T : Facts c) {C m D : Str} {d : Stmt} (h : methodOf C m = some (D, d)) : ∃ Ca x, c.cls C = some Ca ∧ findIn c.K (.ref Ca) m = some (some (.ref x.f)) ∧ FnOk c x D ∧ x.Is d := by
 have hm : (C, m) ∈ methTable := List.contains_iff_mem.mp (if_some h).1
 have e := okM_ok (List.all_eq_true.mp T.m1 _ hm)
 have e2 : c.K.lookup (addrM c C m) = some (fnObj (fnAt c.K (addrM c C m))) := List.map_inj_left.mp T.m2 _ hm
 have e3 := List.map_inj_left.mp T.m3 _ hm
 exact ⟨clsA c C, fnAt c.K (addrM c C m), e.1, e.2.1, fnOkB_ok e2 e.2.2.1 (bodyOk_ok (D := D) T (allO (p := fun q => bodyOk c (addrM c C m) q.1) h e.2.2.2)), rebuilt (f := Prod.snd) h e3⟩
theorem Facts.sup {c : Cx} (T : Facts c) {C at_ m D : Str} {d : Stmt} (h : superOf C at_ m = some (D, d)) : ∃ Ca Da x, c.cls C = some Ca ∧ c.cls at_ = some Da ∧ mroIn c.K Ca (.ref Da) = some true ∧ ks_superIn c.K Ca Da m = some (some (.ref x.f)) ∧ (m == ("__class__" : Str)) = false ∧ FnOk c x D ∧ x.Is d := by
 have hm : (C, at_, m) ∈ supTable := List.contains_iff_mem.mp (if_some h).1
 have e := okS_ok (List.all_eq_true.mp T.s1 _ hm)
 have e2 : c.K.lookup (addrS c C at_ m) = some (fnObj (fnAt c.K (addrS c C at_ m))) := List.map_inj_left.mp T.s2 _ hm
 have e3 := List.map_inj_left.mp T.s3 _ hm
 exact ⟨clsA c C, clsA c at_, fnAt c.K (addrS c C at_ m), e.1.1, e.1.2.1, e.1.2.2.1, e.1.2.2.2.1, e.1.2.2.2.2, fnOkB_ok e2 e.2.1 (bodyOk_ok (D := D) T (allO (p := fun q => bodyOk c (addrS c C at_ m) q.1) h e.2.2)), rebuilt (f := Prod.snd) h e3⟩
theorem Facts.fn {c : Cx} (T : Facts c) {f : Str} {d : Stmt} (h : topFn f = some d) : ∃ x, nsIn c.K mainGlobals f = some (some (.ref x.f)) ∧ FnOk c x Str.empty ∧ x.Is d := by
 have hm : f ∈ fnTable := List.contains_iff_mem.mp (if_some h).1
 have e : (decide _ && (fnOkB c _ && bodyOk c (addrF c f) Str.empty)) = true := List.all_eq_true.mp T.f1 _ hm
 exact ⟨fnAt c.K (addrF c f), of_decide_eq_true (aL e), fnOkB_ok (List.map_inj_left.mp T.f2 _ hm) (aL (aR e)) (bodyOk_ok T (aR (aR e))), rebuild_ok (Option.some.inj (by rw [← h]; exact (List.map_inj_left.mp T.f3 _ hm).trans (by rw [h]; rfl)))⟩
noncomputable def clsOkB (K : Frag) (Ca : Addr) : Bool := decide (findIn K (.ref Ca) "__getattribute__" = some (some (.builtin "object.__getattribute__")) ∧ findIn K (.ref Ca) "__getattr__" = some none ∧ findIn K (.ref Ca) "__setattr__" = some (some (.builtin "object.__setattr__")) ∧
 hasDictIn K Ca = true ∧ makesIn K Ca = true ∧ plainOver K Ca = true ∧ keepIn K (.ref Ca) = true ∧ ∀ a ∈ attrTable, findIn K (.ref Ca) a = some none)
theorem clsOkB_ok {K : Frag} {Ca : Addr} (h : clsOkB K Ca = true) : ClsOk K Ca :=
 have h := of_decide_eq_true h
 ⟨h.1, h.2.1, h.2.2.1, h.2.2.2.1, h.2.2.2.2.1, h.2.2.2.2.2.1, h.2.2.2.2.2.2.1, fun a ha => h.2.2.2.2.2.2.2 a (List.contains_iff_mem.mp ha)⟩
structure Facts2 (c : Cx) : Prop extends Facts c where
 tab : c.cls = clsAddr c.K
 c1 : (("Heap" : Str) :: clsTable).all (fun C => decide (nsIn c.K mainGlobals C = some (some (.ref (vref (nsIn c.K mainGlobals C))))) && clsOkB c.K (vref (nsIn c.K mainGlobals C))) = true
 b1 : bltns.all (fun f => decide (nsIn c.K mainGlobals f = some none)) = true
 n1 : (c.prog.main.scope.names.lookup ("super" : Str)).isSome = false
 n2 : nsIn c.K cStatics "thirdparty.any" = some none
theorem cls_mem {K : Frag} {C : Str} {Ca : Addr} (h : clsAddr K C = some Ca) : C ∈ (("Heap" : Str) :: clsTable) ∧ vref (nsIn K mainGlobals C) = Ca := ⟨List.contains_iff_mem.mp (if_some h).1, Option.some.inj (if_some h).2⟩
theorem Facts2.good {c : Cx} (T : Facts2 c) (kin : c.K.In c.base) (sys : (c.base.get? sysModules).isSome = true) (nl : c.base.NoLimit) (g : ∃ mg, c.base.Ns mainGlobals mg)
  (b : ∃ mb, c.base.Ns builtinsNs mb ∧ ∀ x : Str, x ≠ "__name__" → mb x = bootBuiltins x) : Good c where
 kin := kin
 sys := sys
 inst := fun C Ca h => (cls_mem (T.tab ▸ h)).2 ▸ clsOkB_ok (aR (List.all_eq_true.mp T.c1 _ (cls_mem (T.tab ▸ h)).1))
 nolimit := nl
 g := g
 b := b
 noSuper := of_decide_eq_true (List.all_eq_true.mp T.b1 "super" (List.contains_iff_mem.mp rfl))
 noTop := T.n1
 any := T.n2
 cls' := fun C hC => ⟨_, (congrFun T.tab C).trans (if_pos (List.contains_iff_mem.mpr (List.mem_cons_of_mem _ (List.contains_iff_mem.mp hC)))), of_decide_eq_true (aL (List.all_eq_true.mp T.c1 C (List.mem_cons_of_mem _ (List.contains_iff_mem.mp hC))))⟩
 meth := fun C m D d h => T.meth h
 sup := fun C at_ m D d h => T.sup h
 fn := fun f d h => T.fn h
 bl := fun f h => of_decide_eq_true (List.all_eq_true.mp T.b1 f (List.contains_iff_mem.mp h))
end Mine
set_option tactic.hygienic true
set_option tactic.hygienic false
section
open PySem.W PyProof.Rows PySem.Calls
namespace Mine
noncomputable def runC (tb : String → Option Builtin) (p : Program) (w : World) (n₀ : Nat) (ann : Option Value) (c : Nat) (n : Nat) : SharedT → Thread → Option SharedT :=
 Nat.rec (fun _ _ => none) (fun _ ih s t => match PySem.W.Fast.tw10295753902157049106 tb p w n₀ ann 0 c s t with
  | some (s', t') => ih s' t'
  | none => match PySem.W.Fast.tw10110043849684766642 tb p w n₀ ann 0 c s t with
   | some (_, s', _, _) => some s'
   | none => none) n
theorem end0 (t : Thread) : (endAt 0 t = none ∧ through t = false) ∨ ∃ f, endAt 0 t = some f ∧ through t = true := by
 obtain ⟨cur, code, pos, stack⟩ := t
 cases stack with
 | nil =>
  cases cur with
  | pure f => cases f with
   | done f => exact .inr ⟨_, rfl, rfl⟩
   | again => exact .inl ⟨rfl, rfl⟩
  | _ => exact .inl ⟨rfl, rfl⟩
 | cons a r => exact .inl ⟨rfl, rfl⟩
section
variable {tb : String → Option Builtin} {p : Program} {w : World} {n₀ : Nat} {ann : Option Value}
theorem run0 : ∀ {n : Nat} {s s' : Shared} {t : Thread} {f : Flow} {c : Code} {q : Pos}, segRun tb p w n₀ ann 0 n s t = some (f, s', c, q) → topRun tb p w n₀ ann n s t = some s'
 | 0, _, _, _, _, _, _, h => by cases h
 | n + 1, s, s', t, f, c, q, h => by
  unfold segRun at h
  unfold topRun
  rcases end0 t with ⟨e, e'⟩ | ⟨g, e, e'⟩
  ·rw [e] at h
   rw [e']
   dsimp only at h ⊢
   cases hk : stepOk n₀ ann t with
   | false => rw [hk] at h; cases h
   | true =>
    rw [hk] at h
    cases hs : step (denote tb) p w s t with
    | halt o s₂ => rw [hs] at h; cases h
    | go s₂ t₂ => rw [hs] at h; exact run0 h
  ·rw [e] at h
   rw [e']
   cases h; rfl
theorem go0 : ∀ {n N : Nat} {s s' r : Shared} {t t' : Thread}, segGo tb p w n₀ ann 0 n s t = some (s', t') → topRun tb p w n₀ ann N s' t' = some r → topRun tb p w n₀ ann (n + N) s t = some r
 | 0, N, s, s', r, t, t', h, k => by
  obtain ⟨rfl, rfl⟩ : s = s' ∧ t = t' := by simpa [segGo] using h
  rw [Nat.zero_add]; exact k
 | n + 1, N, s, s', r, t, t', h, k => by
  rw [show n + 1 + N = n + N + 1 by omega]
  unfold segGo at h
  unfold topRun
  rcases end0 t with ⟨e, e'⟩ | ⟨g, e, e'⟩
  ·rw [e] at h
   rw [e']
   dsimp only at h ⊢
   cases hk : stepOk n₀ ann t with
   | false => rw [hk] at h; cases h
   | true =>
    rw [hk] at h
    cases hs : step (denote tb) p w s t with
    | halt o s₂ => rw [hs] at h; cases h
    | go s₂ t₂ => rw [hs] at h; exact go0 h k
  ·rw [e] at h
   cases h
theorem runC_ok {c : Nat} : ∀ {n : Nat} {s s' : SharedT} {t : Thread}, runC tb p w n₀ ann c n s t = some s' → topRun tb p w n₀ ann (n * c) s.abs t = some s'.abs
 | 0, _, _, _, h => nomatch (show (none : Option SharedT) = _ from h)
 | n + 1, s, s', t, h => by
  have h : (match PySem.W.Fast.tw10295753902157049106 tb p w n₀ ann 0 c s t with
   | some (s', t') => runC tb p w n₀ ann c n s' t'
   | none => match PySem.W.Fast.tw10110043849684766642 tb p w n₀ ann 0 c s t with
    | some (_, s', _, _) => some s'
    | none => none) = some s' := h
  rw [← PySem.W.Fast.te10295753902157049106, ← PySem.W.Fast.te10110043849684766642] at h
  rw [show (n + 1) * c = c + n * c by rw [Nat.succ_mul]; omega]
  cases e : segGoT tb p w n₀ ann 0 c s t with
  | some x =>
   rw [e] at h
   exact go0 (segGo_of e) (runC_ok h)
  | none =>
   rw [e] at h
   dsimp only at h
   cases e' : segRunT tb p w n₀ ann 0 c s t with
   | none => rw [e'] at h; cases h
   | some y =>
    obtain ⟨f, s2, c2, q⟩ := y
    rw [e'] at h
    cases h
    have := topRun_mono (n * c) _ _ _ _ (run0 (segRun_of e'))
    exact this
end
theorem left_run {p q : Program} {loose : List Str} {Xt : Shared → Bool} {α : Type} {Yf : Shared → α} {Ya : World → α} {N : Nat} {H₀ : Params → Heap} {gs₀ : Array GenState} {d₀ : Drawn} {k₀ : Nat} {m₀ : Nat} {ann : Option Value} {c n : Nat} {T₀ : World → OsState → SharedT}
  (open_ : ∀ w : World, (fencedOpening treeTable p w N).map (fun s => (s.heap, s.gens, s.drawn, s.toks)) = some (H₀ w.params, gs₀, d₀, k₀))
  (size : ∀ w : World, ((H₀ w.params).isNs mainGlobals && gs₀.size == 0, (H₀ w.params).objs.size, (H₀ w.params).nsMap mainGlobals "__annotations__") = (true, m₀, ann))
  (abs₀ : ∀ w os, (T₀ w os).abs = ⟨H₀ w.params, gs₀, d₀, k₀, os⟩) (le : Nat.ble (n * c) N = true)
  (run : ∀ (w : World) (os : OsState), (runC treeTable p w m₀ ann c n (T₀ w os) (topStub p)).map (fun s => ((staticsOk (importedModules p.main.body) (H₀ w.params) s.abs.heap && namesBound p s.abs.heap && gensDone s.abs && laidKept (H₀ w.params) s.abs.heap), openSeen q loose (importedModules p.main.body) Xt true s.abs, Yf s.abs)) = some (true, openGood q loose, Ya w)) :
  LeftO p q loose Xt Yf Ya N := fun w => by
 obtain ⟨⟨h, gs, d, k, os⟩, e, e'⟩ := Option.map_eq_some_iff.mp (open_ w)
 obtain ⟨rfl, rfl, rfl, rfl⟩ : h = H₀ w.params ∧ gs = gs₀ ∧ d = d₀ ∧ k = k₀ := by simpa using e'
 obtain ⟨z1, z2, z3⟩ : _ ∧ _ ∧ _ := by simpa only [Prod.mk.injEq] using size w
 obtain ⟨s', r, l⟩ := Option.map_eq_some_iff.mp (run w os)
 obtain ⟨l1, l2, l3⟩ : _ ∧ _ ∧ _ := by simpa only [Prod.mk.injEq] using l
 have r := runC_ok r
 rw [abs₀] at r
 have r := topRun_mono (N - n * c) _ _ _ _ r
 rw [show n * c + (N - n * c) = N by have := Nat.le_of_ble_eq_true le; omega] at r
 have t : topFrom treeTable p w N ⟨H₀ w.params, gs, d, k, os⟩ = some s'.abs := by
  unfold topFrom
  dsimp only
  rw [z1, z2, z3, r]
  show (match staticsOk (importedModules p.main.body) (H₀ w.params) s'.abs.heap && namesBound p s'.abs.heap && gensDone s'.abs && laidKept (H₀ w.params) s'.abs.heap with | true => _ | false => _) = _
  rw [l1]
 unfold openEnds
 rw [e]
 show (topFrom treeTable p w N _).map _ = _
 rw [t]
 exact congrArg some (Prod.ext l2 l3)
noncomputable def bootT (P : Params) : BT := ((boot_heap P).objs.toList.foldl (fun (x : BT × Nat) o => (x.1.ins x.2 o, x.2 + 1)) (.nil, 0)).1
end Mine
end
set_option tactic.hygienic true
section
open PySem.W PyProof.Rows PySem.Calls
namespace Mine
noncomputable def T0 (w : World) (os : OsState) : SharedT := ⟨bootT w.params, 11, (boot_heap w.params).life, Array.mk [], boot_drawn, boot_toks, os⟩
theorem size0 : ∀ w : World, ((boot_heap w.params).isNs mainGlobals && (Array.mk [] : Array GenState).size == 0, (boot_heap w.params).objs.size, (boot_heap w.params).nsMap mainGlobals "__annotations__") = (true, 11, some (.ref 6)) := fun w => by kernel_rfl
theorem abs0 : ∀ w os, (T0 w os).abs = ⟨boot_heap w.params, Array.mk [], boot_drawn, boot_toks, os⟩ := fun w os => by kernel_rfl
theorem open0 : ∀ w : World, (fencedOpening treeTable PySem.Challenge.pw_rg0125_01 w 3840).map (fun s => (s.heap, s.gens, s.drawn, s.toks)) = some (boot_heap w.params, Array.mk [], boot_drawn, boot_toks) :=
 boot_open (by kernel_rfl) (by decide) (fun s => by kernel_rfl)
noncomputable def vw : Program := view PySem.Challenge.pw_rg0125_01 [0, 2, 3, 5, 6, 8, 10, 12, 13, 15, 16, 17, 18, 19]
set_option maxRecDepth 100000
set_option maxHeartbeats 8000000
theorem both {a b : Bool} (h : a = true) (g : b = true) : (a && b) = true := by rw [h, g]; rfl
theorem said1 : namesResolve PySem.Challenge.rw_rg0125_01.row.prog = true := by kernel_rfl
theorem said2 : namesMeet PySem.Challenge.rw_rg0125_01.row.prog PySem.Challenge.rw_rg0125_01.row.prog.main.body (fun _ n => attrL n) = true := by kernel_rfl
theorem said3 : looksOpen PySem.Challenge.rw_rg0125_01.row.prog = true := by
 delta looksOpen
 refine both (both (both (both ?_ said1) ?_) ?_) said2 <;> kernel_rfl
theorem said4 : OpenRow.partSaid PySem.Challenge.rw_rg0125_01.row = true := by
 delta OpenRow.partSaid
 refine both (both (both (both (both (both (both (both (both (both (both (both (both said3 ?_) ?_) ?_) ?_) ?_) ?_) ?_) ?_) ?_) ?_) ?_) ?_) ?_ <;> kernel_rfl
theorem said5 : OpenRow.wellSaid PySem.Challenge.rw_rg0125_01.row = true := by
 delta OpenRow.wellSaid
 refine both (both said4 ?_) ?_ <;> kernel_rfl
theorem said0 : OpenLaw.wellSaid PySem.Challenge.rw_rg0125_01 = true := by
 delta OpenLaw.wellSaid
 refine both (both (both (both (both (both (both (both (both (both (both (both (both (both (both (both (both (both said5 ?_) ?_) ?_) ?_) ?_) ?_) ?_) ?_) ?_) ?_) ?_) ?_) ?_) ?_) ?_) ?_) ?_) ?_ <;> kernel_rfl
set_option hygiene false
set_option compiler.extract_closed false
local macro_rules | `(tactic| o_law) => `(tactic| refine holds_law Mine.said0 fun said => ?_)
local macro_rules | `(tactic| o_head $H) => `(tactic| apply holds_open (r := PySem.Challenge.rw_rg0125_01.row) (q := Mine.vw) (loose := []) (Xt := fun s => xlAt Mine.vw [] s && recOk (RowW.records (OpenRow.toRowW PySem.Challenge.rw_rg0125_01.row)) s) (XP := XL Mine.vw []) (Yf := Hook.obs $H) (Ya := Hook.val $H) (YP := Hook.says $H) (N := 3840)
 (Mine.left_run (p := PySem.Challenge.pw_rg0125_01) Mine.open0 Mine.size0 Mine.abs0 (c := 64) (n := 60) (by decide) (fun w os => by rw [PySem.W.Fast.te14364793385576792824, PySem.W.Fast.te4187177175401517315]; kernel_rfl))
 (Hook.of $H) (Hook.keeps $H) (fun s e => xl_of s (Bool.and_eq_true_iff.mp e).1) XL.keeps (by rfl) (by rfl) (by rfl) (fun s e => recFacts_of (Bool.and_eq_true_iff.mp e).2) (by rfl) (by first | assumption | decide +kernel) (by decide +kernel) ⟨rfl, rfl, rfl, rfl, rfl, by decide +kernel⟩)
set_option hygiene true
set_option compiler.extract_closed true
set_option maxHeartbeats 8000000
open_top hd for PySem.Challenge.rw_rg0125_01
end Mine
end
section
open PySem
namespace Mine
open PySem.W
noncomputable def cxOf (w : World) (h : Heap) (os : OsState) (gens : Array GenState) : Cx :=
 ⟨PySem.Challenge.rw_rg0125_01.row.prog, w, hd.heap_1 w.params, h, os, gens, clsAddr (hd.heap_1 w.params)⟩
theorem sup_fn (w : World) (h : Heap) (os : OsState) (gens : Array GenState) : ∀ p ∈ supDefs, SupFn (cxOf w h os gens) (fnAt (hd.heap_1 w.params) (addrM (cxOf w h os gens) p.1 p.2.1)) p.2.2 := by
 refine List.forall_mem_cons.mpr ⟨?_, List.forall_mem_cons.mpr ⟨?_, List.forall_mem_cons.mpr ⟨?_, List.forall_mem_nil _⟩⟩⟩
 ·exact sup_one (by kernel_rfl) (by kernel_rfl) (by kernel_rfl) (by kernel_rfl) (by kernel_rfl) (by kernel_rfl) ⟨by kernel_rfl, by kernel_rfl⟩ (by kernel_rfl) (by kernel_rfl) (by kernel_rfl) (by kernel_rfl)
 ·exact sup_one (by kernel_rfl) (by kernel_rfl) (by kernel_rfl) (by kernel_rfl) (by kernel_rfl) (by kernel_rfl) ⟨by kernel_rfl, by kernel_rfl⟩ (by kernel_rfl) (by kernel_rfl) (by kernel_rfl) (by kernel_rfl)
 ·exact sup_one (by kernel_rfl) (by kernel_rfl) (by kernel_rfl) (by kernel_rfl) (by kernel_rfl) (by kernel_rfl) ⟨by kernel_rfl, by kernel_rfl⟩ (by kernel_rfl) (by kernel_rfl) (by kernel_rfl) (by kernel_rfl)
theorem facts (w : World) (h : Heap) (os : OsState) (gens : Array GenState) : Facts2 (cxOf w h os gens) where
 m1 := by kernel_rfl
 m2 := by kernel_rfl
 m3 := by kernel_rfl
 s1 := by kernel_rfl
 s2 := by kernel_rfl
 s3 := by kernel_rfl
 f1 := by kernel_rfl
 f2 := by kernel_rfl
 f3 := by kernel_rfl
 sp := sup_fn w h os gens
 tab := rfl
 c1 := by kernel_rfl
 b1 := by kernel_rfl
 n1 := by kernel_rfl
 n2 := by kernel_rfl
end Mine
end
section
open PySem PySem.W PyProof.Rows
namespace Mine
noncomputable def lawD : Stmt := (topDef "law").getD (.Pass default)
noncomputable def Runs : Prop := ∀ script : List Int, script.length ≤ 63 → W2 (callD 600 Str.empty lawD [.lst (script.map .int)] []) fun v _ => v = .bool true
theorem law_fn (w : World) (h : Heap) (os : OsState) (gens : Array GenState) : fnOkB (cxOf w h os gens) (fnAt (hd.heap_1 w.params) (addrF (cxOf w h os gens) "law")) = true := by kernel_rfl
theorem law_up (w : World) (h : Heap) (os : OsState) (gens : Array GenState) : ((fnAt (hd.heap_1 w.params) (addrF (cxOf w h os gens) "law")).sc.names.lookup ("super" : Str)).isSome = false := by kernel_rfl
theorem law_at (w : World) (h : Heap) (os : OsState) (gens : Array GenState) : (hd.heap_1 w.params).lookup (addrF (cxOf w h os gens) "law") = some (fnObj (fnAt (hd.heap_1 w.params) (addrF (cxOf w h os gens) "law"))) := by kernel_rfl
theorem law_is (w : World) (h : Heap) (os : OsState) (gens : Array GenState) : lawD = rebuild (fnAt (hd.heap_1 w.params) (addrF (cxOf w h os gens) "law")) lawD := by kernel_rfl
theorem law_ns (w : World) (h : Heap) (os : OsState) (gens : Array GenState) : nsIn (hd.heap_1 w.params) mainGlobals "law" = some (some (.ref (addrF (cxOf w h os gens) "law"))) := by kernel_rfl
theorem relVs_ints {h : Heap} {vs : List Value} {is : List Int} (r : IntsAre vs is) : RelVs [] [] h vs (is.map .int) := by
 induction r with
 | nil => exact .nil
 | cons i t _ r => exact .cons (.int i t) r
theorem run_sound (H : Runs) {w : World} {s : Shared} {mg mb : Str → Option Value} (KX : (hd.heap_1 w.params).In s.heap) (sys : (s.heap.get? sysModules).isSome = true) (nl : s.heap.NoLimit) (g : s.heap.Ns mainGlobals mg) (b : s.heap.Ns builtinsNs mb) (hb : ∀ x : Str, x ≠ "__name__" → mb x = bootBuiltins x)
  {script : List Int} (hl : script.length ≤ 63) {a : Addr} {vs : List Value} (hL : PL s.heap a vs) (hI : IntsAre vs script) {fa : Addr} (hmg : mg "law" = some (.ref fa)) {Rs : Result → Shared → Prop}
  (hq : ∀ s', (∀ b o, s.heap.get? b = some o → s'.heap.get? b = some o) → s'.os = s.os → s'.gens = s.gens → Rs (.ok (.ret (.bool true))) s') :
  codeAny (model PySem.Challenge.rw_rg0125_01.row.prog w) callerA (.call (.ref fa) ⟨[.ref a], []⟩) Rs s := by
 have G : Good (cxOf w s.heap s.os s.gens) := (facts w s.heap s.os s.gens).good KX sys nl ⟨mg, g⟩ ⟨mb, b, hb⟩
 have e := mg_of KX g (law_ns w s.heap s.os s.gens)
 rw [hmg] at e
 cases e
 have F := fnOkB_ok (D := Str.empty) (c := cxOf w s.heap s.os s.gens) (x := fnAt (hd.heap_1 w.params) (addrF (cxOf w s.heap s.os s.gens) "law")) (law_at w s.heap s.os s.gens) (law_fn w s.heap s.os s.gens) (.inl (law_up w s.heap s.os s.gens))
 have I := rebuild_ok (law_is w s.heap s.os s.gens)
 have R : Rel (cxOf w s.heap s.os s.gens) [] [] [] s := {
  len := rfl
  objs := fun n p o e => by simp at e
  nodup := .nil
  disj := fun _ h => nomatch h
  bound := fun _ h => nomatch h
  new := fun _ h => nomatch h
  newS := fun _ h => nomatch h
  keep := fun _ _ e => e
  os := rfl
  gens := rfl }
 have room : Room callerA 600 := ⟨rfl, by decide, by decide⟩
 have := fun Rs => H script hl (Rs := Rs) G F I room R (.cons (.lst hL nofun nofun (relVs_ints hI)) .nil)
 have := this Rs fun x μ' e v ι' s' E R' rv => by
  subst e
  rw [bools_of rv]
  exact hq s' (fun b o e => E.keep b o nofun nofun e) R'.os R'.gens
 exact this
end Mine
end
section
open PySem PySem.W PyProof.Rows
namespace Mine
theorem well_ints {P : Params} {h : Heap} {a : Addr} {is : List Int} (x : Well P h (.ref a) (ofPy (PyData.list (is.map .int)))) : ∃ vs, PL h a vs ∧ IntsAre vs is := by
 have e : ofPy (PyData.list (is.map .int)) = .list (is.map .int) := by
  rw [ofPy, ofPys_ints]
 rw [e] at x
 cases x with
 | list h1 h2 =>
  rename_i vs
  refine ⟨vs, ⟨_, h1⟩, ?_⟩
  clear e h1
  induction is generalizing vs with
  | nil => cases h2; exact .nil
  | cons i r ih =>
   cases h2 with
   | cons a b => cases a; exact .cons _ _ (ih b)
set_option maxRecDepth 100000 in
set_option maxHeartbeats 8000000 in
theorem xx (H : Mine.Runs) : PySem.Challenge.rw_rg0125_01.Holds := Mine.hd (by
 k_fill
 intro w s₀ s₁ mg mb G Y fa o pm cd doc dV kV ho hd hcd hD hmg hg args vals as hpre hlay hrd hwl hlo
 have KX := kIn_of Y
 have T := G.T
 clear hd hcd hD Y
 wrow_args hpre hlay hrd hwl hlo
 rename_i w3 w2 w1 hL ra w1x r0 hI hr hcond hh
 refine enter_call ?_
 obtain ⟨vs, hPL, hI2⟩ := Mine.well_ints w1x
 refine Mine.run_sound H KX ?_ T.nolimit T.g T.b T.builtins (by lia) hPL hI2 hmg ?_
 ·obtain ⟨mm, ⟨ob, es, ep, e, _⟩, _⟩ := (T.seer (by decide +kernel)).mods
  rw [e]; rfl
 ·intro s' hk hos hgens
  refine ⟨.inl ⟨.bool true, .bool true, [], rfl, ?_, .bool true, ?_, ?_⟩, .of_keep hk, hos, .of_eq (hgens.trans hg)⟩
  ·intro cls; rfl
  ·wrow_post
  ·intro _; exact ⟨.nil, fun _ h => nomatch h⟩)
end Mine
end
namespace Mine
set_option tactic.hygienic false
theorem iP {c A B : Prop} [Decidable c] (h : c) (q : A) : if c then A else B := by rw [if_pos h]; exact q
theorem iM {c A B : Prop} [Decidable c] (h : ¬c) (q : B) : if c then A else B := by rw [if_neg h]; exact q
theorem iD {p A B : Prop} [Decidable p] (h : p) (q : A) : if decide p = true then A else B := iP (decide_eq_true h) q
theorem iN {p A B : Prop} [Decidable p] (h : ¬p) (q : B) : if decide p = true then A else B := iM (by rw [decide_eq_false h]; exact nofun) q
theorem iJ {p A B : Prop} [Decidable p] (h : p) (q : B) : if (!decide p) = true then A else B := iM (by rw [decide_eq_true h]; exact nofun) q
theorem iK {p A B : Prop} [Decidable p] (h : ¬p) (q : A) : if (!decide p) = true then A else B := iP (by rw [decide_eq_false h]; rfl) q
theorem lk_put (l : Loc) (x : Str) (v : V) : (put l x v).lookup x = some v := by
 induction l with
 | nil => simp [put]
 | cons e r ih =>
  obtain ⟨y, w⟩ := e
  by_cases q : x = y
  ·simp [put, q]
  ·have : (x == y) = false := by simpa using q
   simp [put, q, List.lookup_cons, this, ih]
/-- some names of a frame -/
noncomputable def Lk (ρ l : Loc) : Prop := ∀ p ∈ l, ρ.lookup p.1 = some p.2
theorem Lk.get {ρ l : Loc} {x : Str} {v : V} (L : Lk ρ l) (h : l.lookup x = some v) : ρ.lookup x = some v := L _ (mem_of_lookup h)
theorem Lk.nil (ρ : Loc) : Lk ρ [] := fun _ h => nomatch h
theorem Lk.cons {ρ l : Loc} {x : Str} {v : V} (h : ρ.lookup x = some v) (L : Lk ρ l) : Lk ρ ((x, v) :: l) := by
 intro p hp
 rcases List.mem_cons.mp hp with rfl | hp
 ·exact h
 ·exact L p hp
theorem lk_put_ne (l : Loc) {x y : Str} (v : V) (h : y ≠ x) : (put l x v).lookup y = l.lookup y := by
 induction l with
 | nil =>
  have : (y == x) = false := by simpa using h
  simp [put, List.lookup_cons, this]
 | cons e r ih =>
  obtain ⟨z, w⟩ := e
  by_cases q : x = z
  ·subst q
   have : (y == x) = false := by simpa using h
   simp [put, List.lookup_cons, this]
  ·simp [put, q, List.lookup_cons, ih]
theorem mem_put {l : Loc} {x : Str} {v : V} : ∀ {p : Str × V}, p ∈ put l x v → p = (x, v) ∨ (p ∈ l ∧ (p.1 ≠ x ∨ True)) := by
 induction l with
 | nil => intro p h; simp [put] at h; exact .inl h
 | cons e r ih =>
  obtain ⟨z, w⟩ := e
  intro p h
  by_cases q : x = z
  ·simp only [put, q, if_true] at h
   rcases List.mem_cons.mp h with h | h
   ·exact .inl (by rw [h, q])
   ·exact .inr ⟨.tail _ h, .inr trivial⟩
  ·simp only [put, q, if_false] at h
   rcases List.mem_cons.mp h with h | h
   ·exact .inr ⟨by rw [h]; exact .head _, .inr trivial⟩
   ·rcases ih h with h | ⟨h, _⟩
    ·exact .inl h
    ·exact .inr ⟨.tail _ h, .inr trivial⟩
/-- the names are told once -/
noncomputable def once (l : Loc) : Bool := match l with
 | [] => true
 | e :: r => !(r.any fun f => f.1 == e.1) && once r
theorem Lk.upd {ρ l : Loc} (L : Lk ρ l) (x : Str) (v : V) (ho : once l = true) : Lk (put ρ x v) (put l x v) := by
 intro p hp
 by_cases q : p.1 = x
 ·rw [q, lk_put]
  have : ∀ l : Loc, once l = true → ∀ p ∈ put l x v, p.1 = x → p.2 = v := by
   intro l
   induction l with
   | nil => intro _ p hp _; simp [put] at hp; rw [hp]
   | cons e r ih =>
    obtain ⟨z, w⟩ := e
    intro ho p hp hq
    simp only [once, Bool.and_eq_true, Bool.not_eq_true', List.any_eq_false] at ho
    by_cases q : x = z
    ·simp only [put, q, if_true] at hp
     rcases List.mem_cons.mp hp with h | h
     ·rw [h]
     ·have := ho.1 p h
      rw [hq, q] at this; simp at this
    ·simp only [put, q, if_false] at hp
     rcases List.mem_cons.mp hp with h | h
     ·rw [h] at hq; exact absurd hq.symm q
     ·exact ih ho.2 p h hq
  rw [this l ho p hp q]
 ·rw [lk_put_ne ρ v q]
  rcases mem_put hp with h | ⟨h, _⟩
  ·rw [h] at q; exact absurd rfl q
  ·exact L p h
theorem Lk.sub {ρ l l' : Loc} (L : Lk ρ l) (h : ∀ p ∈ l', l.lookup p.1 = some p.2) : Lk ρ l' := fun p hp => L.get (h p hp)
theorem capt_of {ρ : Loc} {names : List (Str × NameKind)} {x : Str} {v : V} (hn : (names.map (·.1)).Nodup) (hm : (x, NameKind.free) ∈ names) (hl : ρ.lookup x = some v) : (names.filterMap fun (x, k) => if k = .free then (ρ.lookup x).map (x, ·) else none).lookup x = some v := by
 induction hm with
 | head r => exact (congrArg (List.lookup x) (List.filterMap_cons_some (b := (x, v)) (by show (if NameKind.free = NameKind.free then _ else none) = _; rw [if_pos rfl, hl]; rfl))).trans (lookup_hd ..)
 | @tail e r m ih =>
  have ih := ih (List.nodup_cons.mp hn).2
  have hne : x ≠ e.1 := fun q => (List.nodup_cons.mp hn).1 (Eq.subst (motive := fun z => z ∈ _) q (List.mem_map_of_mem (f := Prod.fst) m))
  obtain ⟨y, k⟩ := e
  by_cases hk : k = NameKind.free
  ·cases q : ρ.lookup y with
   | none => exact (congrArg (List.lookup x) (List.filterMap_cons_none (by show (if k = NameKind.free then _ else none) = _; rw [if_pos hk, q]; rfl))).trans ih
   | some w => exact (congrArg (List.lookup x) (List.filterMap_cons_some (b := (y, w)) (by show (if k = NameKind.free then _ else none) = _; rw [if_pos hk, q]; rfl))).trans ((lookup_tl _ _ hne).trans ih)
  ·exact (congrArg (List.lookup x) (List.filterMap_cons_none (by show (if k = NameKind.free then _ else none) = _; rw [if_neg hk]))).trans ih
theorem Lk.capt {ρ l : Loc} (L : Lk ρ l) {sc : Scope} (hn : decide ((sc.names.map (·.1)).Nodup) = true) (l' : Loc) (h : (l'.all fun p => sc.names.contains (p.1, .free)) = true) (h2 : ∀ p ∈ l', l.lookup p.1 = some p.2) : Lk (capt sc ρ) l' := by
 intro p hp
 have := List.all_eq_true.mp h p hp
 exact capt_of (of_decide_eq_true hn) (by simpa using this) (L.get (h2 p hp))
section
variable {n : Nat} {h : Here} {ρ l : Loc} {μ : Mem} {p : Pos}
theorem w_snameL {x : Str} {v : V} {Q : Loc → Mem → Prop} (ho : isOwn h.sc x = true) (L : Lk ρ l) (h1 : once l = true) (q : ∀ ρ', Lk ρ' (put l x v) → Q ρ' μ) : W2 (asg n (.Name x p) v h ρ μ) Q := w_sname ho (q _ (L.upd x v h1))
theorem w_peL {e : Expr} {v : V} {Q : V → Mem → Prop} (L : Lk ρ l) (he : pe h l μ 6 e = some v) (q : Q v μ) : W2 (ev n e h ρ μ) Q := pe_ok (fun _ _ => L.get) 6 e v he Q q
theorem w_pesL {es : List Expr} {vs : List V} {Q : List V → Mem → Prop} (L : Lk ρ l) (he : pes (pe h l μ 6) es = some vs) (q : Q vs μ) : W2 (evs n es h ρ μ) Q := pes_ok (pe_ok (fun _ _ => L.get) 6) he q
theorem w_ptL {a b : Expr} {op : CmpOp} {r : Bool} {Q : Bool → Mem → Prop} (L : Lk ρ l) (he : pt h l μ a b op = some r) (q : Q r μ) : W2 (tst n (.Compare a [op] [b] p) h ρ μ) Q := pt_ok (fun _ _ => L.get) he q
theorem w_nameL {x : Str} {v : V} {Q : V → Mem → Prop} (hl : isLoc h.sc x = true) (L : Lk ρ l) (e : l.lookup x = some v) (q : Q v μ) : W2 (ev n (.Name x p) h ρ μ) Q := w_name hl (L.get e) q
end
set_option tactic.hygienic true
theorem contB_next {n : Nat} {ss : List Stmt} {h : Here} {R : Fl → Loc → Mem → Prop} {ρ : Loc} {μ : Mem} (H : W3 (exB n ss h ρ μ) R) : contB n ss h R .next ρ μ := H
theorem contB_ret {n : Nat} {ss : List Stmt} {h : Here} {R : Fl → Loc → Mem → Prop} {ρ : Loc} {μ : Mem} {v : V} (H : R (.ret v) ρ μ) : contB n ss h R (.ret v) ρ μ := H
theorem contS_next {n : Nat} {ss : List Stmt} {h : Here} {R : Fl → Loc → Mem → Prop} {ρ : Loc} {μ : Mem} (H : W3 (exs n ss h ρ μ) R) : contS n ss h R .next ρ μ := H
theorem contS_ret {n : Nat} {ss : List Stmt} {h : Here} {R : Fl → Loc → Mem → Prop} {ρ : Loc} {μ : Mem} {v : V} (H : R (.ret v) ρ μ) : contS n ss h R (.ret v) ρ μ := H
theorem retQ_next {Q : V → Mem → Prop} {μ : Mem} (H : Q .none μ) : retQ Q .next μ := H
theorem retQ_ret {Q : V → Mem → Prop} {μ : Mem} {v : V} (H : Q v μ) : retQ Q (.ret v) μ := H
section
variable {n : Nat} {h : Here} {ρ : Loc} {μ : Mem}
theorem callD_mono {D : Str} {d : Stmt} {xs : List V} {Q R : V → Mem → Prop} (H : W2 (callD n D d xs μ) Q) (i : ∀ x μ, Q x μ → R x μ) : W2 (callD n D d xs μ) R := by
 intro c A s ι S vs fn Rs G FO I hr RR rv K
 exact H G FO I hr RR rv fun x μ q => K x μ (i x μ q)
theorem fr_mono {t : Expr} {b : List Stmt} {sr : Src} {j : Nat} {Q R : Fl → Loc → Mem → Prop} (H : W3 (fr n t b sr j h ρ μ) Q) (i : ∀ x ρ μ, Q x ρ μ → R x ρ μ) : W3 (fr n t b sr j h ρ μ) R := by
 intro c A s ι S T env a Rs G hr RR r r₀ q ap K
 exact H G hr RR r r₀ q ap fun x ρ μ q => K x ρ μ (i x ρ μ q)
theorem whl_mono {t : Expr} {b : List Stmt} {Q R : Fl → Loc → Mem → Prop} (H : W3 (whl n t b h ρ μ) Q) (i : ∀ x ρ μ, Q x ρ μ → R x ρ μ) : W3 (whl n t b h ρ μ) R := by
 intro c A s ι S env Rs G hr RR r K
 exact H G hr RR r fun x ρ μ q => K x ρ μ (i x ρ μ q)
theorem callD_to {D : Str} {d : Stmt} {xs : List V} {v : V} {μ' : Mem} {Q : V → Mem → Prop} (H : W2 (callD n D d xs μ) fun u μ₁ => u = v ∧ μ₁ = μ') (q : Q v μ') : W2 (callD n D d xs μ) Q := callD_mono H fun _ _ e => e.1 ▸ e.2 ▸ q
end
set_option hygiene false
set_option compiler.extract_closed false
local macro_rules | `(tactic| walk_at "r") => `(tactic| first | rfl | assumption | (simp only [*]; done))
local macro_rules | `(tactic| walk_at "1") => `(tactic| case e1 => rfl)
/-- one step of the mini-run -/
local macro_rules | `(tactic| walk_at "w") => `(tactic| repeat walk_at "e")
local macro_rules | `(tactic| walk_at "e") => `(tactic| first
 | ((with_reducible first | refine' w_peL ?e2 ?e1 ?_ | refine' w_pesL ?e2 ?e1 ?_ | refine' w_ptL ?e2 ?e1 ?_); (case e2 => assumption); walk_at "1")
 | ((with_reducible refine' w_nameL ?e1 ?e2 ?e3 ?_); (case e2 => assumption); walk_at "1"; (case e3 => rfl))
 | ((with_reducible refine' w_snameL ?e1 ?e2 ?e3 ?_); (case e2 => assumption); walk_at "1"; (case e3 => rfl); intro _ _)
 | ((with_reducible first | refine' w_pe ?e1 ?_ | refine' w_pes ?e1 ?_ | refine' w_pt ?e1 ?_); walk_at "1")
 | ((with_reducible first | refine' w_cM ?e1 ?_ | refine' w_attr ?e1 ?_ | refine' w_tuple ?e1 ?_ | refine' w_list ?e1 ?_ | refine' w_compare ?e1 ?_ | refine' w_item ?e1 ?_ | refine' w_tcmp ?e1 ?_ | refine' w_tcmp2 ?e1 ?_ | refine' w_sname ?e1 ?_ | refine' w_stuple ?e1 ?_ | refine' w_sl ?e1 ?_ | refine' w_callD ?e1 ?_ | refine' w_b1 ?e1 ?_ | refine' w_ass ?e1 ?_ | refine' w_forL ?e1 ?_); walk_at "1")
 | ((with_reducible refine' w_cN ?e1 ?e2 ?e3 ?_); walk_at "1"; (case e2 => rfl); (case e3 => rfl))
 | ((with_reducible first | refine' w_name ?e1 ?e2 ?_ | refine' w_callN ?e1 ?e2 ?_); walk_at "1"; (case e2 => rfl))
 | ((with_reducible refine' w_attrV ?e1 ?e2 ?e3 ?_); (case e1 => walk_at "r"); (case e2 => rfl); (case e3 => rfl))
 | ((with_reducible refine' w_sattrV ?e1 ?e2 ?_); (case e1 => walk_at "r"); (case e2 => rfl))
 | ((with_reducible refine' w_call ?e1 ?_); walk_at "1")
 | (with_reducible first | refine' w_int ?_ | refine' w_str ?_ | refine' w_bool ?_ | refine' w_cnone ?_ | refine' w_callM ?_ | refine' w_nil ?_ | refine' w_cons ?_ | refine' w_binop ?_ | refine' w_ifexp ?_ | refine' w_slice ?_ | refine' w_sliceR ?_ | refine' w_evo0 ?_ | refine' w_not ?_ | refine' w_boolop ?_ | refine' w_tcall ?_ | refine' w_tsts0 ?_ | refine' w_ifs0 ?_ | refine' w_ifs1 ?_ | refine' w_and1 ?_ | refine' w_or1 ?_ | refine' w_snil ?_ | refine' w_scons ?_ | refine' w_sattr ?_ | refine' w_sitem ?_ | refine' w_b0 ?_ | refine' w_x0 ?_ | refine' w_x1 ?_ | refine' w_expr ?_ | refine' w_ret0 ?_ | refine' w_ret ?_ | refine' w_ite ?_ | refine' w_whileL ?_ | refine' w_addI ?_ | refine' w_subI ?_ | refine' w_eqI ?_ | refine' w_neI ?_ | refine' w_ltI ?_ | refine' w_leI ?_ | refine' w_gtI ?_ | refine' w_itT ?_ | refine' w_itL ?_ | refine' contB_next ?_ | refine' contB_ret ?_ | refine' contS_next ?_ | refine' contS_ret ?_ | refine' retQ_next ?_ | refine' retQ_ret ?_))
set_option hygiene true
set_option compiler.extract_closed true
/-- the way up -/
noncomputable def fnd (par : List Nat) : Nat → Nat → Nat
 | 0, a => a
 | f + 1, a => match par[a]? with
  | some b => if b = a then a else fnd par f b
  | none => a
noncomputable def find (par : List Nat) (a : Nat) : Nat := fnd par a a
/-- every number's parent is no greater -/
noncomputable def Up (par : List Nat) : Prop := ∀ i b : Nat, par[i]? = some b → b ≤ i
theorem fnd_more {par : List Nat} (U : Up par) : ∀ (f a g : Nat), a ≤ f → a ≤ g → fnd par f a = fnd par g a
 | 0, a, g, h, _ => by
  have : a = 0 := by exact Nat.eq_zero_of_le_zero (by assumption)
  subst this
  cases g with
  | zero => rfl
  | succ g =>
   unfold fnd
   split
   ·rename_i b e; have := U 0 b e; rw [if_pos (by exact Nat.eq_zero_of_le_zero (by assumption))]
   ·rfl
 | f + 1, a, 0, _, h => by
  have : a = 0 := by exact Nat.eq_zero_of_le_zero (by assumption)
  subst this
  unfold fnd
  split
  ·rename_i b e; have := U 0 b e; rw [if_pos (by exact Nat.eq_zero_of_le_zero (by assumption))]
  ·rfl
 | f + 1, a, g + 1, h1, h2 => by
  unfold fnd
  split
  ·rename_i b e
   have := U a b e
   split
   ·rfl
   ·exact fnd_more U f b g (by lia) (by lia)
  ·rfl
theorem find_root {par : List Nat} {a : Nat} (h : par[a]? = some a) : find par a = a := by
 unfold find
 cases a with
 | zero => rfl
 | succ a => unfold fnd; rw [h]; simp
theorem find_step {par : List Nat} (U : Up par) {a b : Nat} (h : par[a]? = some b) : find par a = find par b := by
 by_cases e : b = a
 ·rw [e]
 ·have := U a b h
  cases a with
  | zero => lia
  | succ a =>
   show fnd par (a + 1) (a + 1) = fnd par b b
   rw [fnd, h]
   simp only [if_neg e]
   exact fnd_more U a b b (by lia) (Nat.le_refl _)
theorem getI_nv {par : List Nat} {x b : Nat} (h : par[x]? = some b) (hl : par.length < limit) : getIdx (par.map nv) (x : Int) = some (nv b) := by
 have : x < par.length := by
  rw [List.getElem?_eq_some_iff] at h; exact h.1
 rw [getIdx_nat (by solve_by_elim (maxDepth := 4) only [*, Nat.le_of_lt, Nat.lt_of_lt_of_le, Nat.lt_of_le_of_lt, Nat.lt_trans, Nat.le_trans, Nat.ne_of_lt, Nat.ne_of_gt]), List.getElem?_map, h]; rfl
theorem listOf_ref {μ : Mem} {k : Nat} {xs : List V} (h : μ[k]? = some (.lst xs)) : listOf (.ref k) μ = some xs := lstAt_of h
theorem lim8 {n : Nat} (h : n ≤ 8) : n < limit := by unfold limit; exact Nat.lt_of_le_of_lt (by assumption) (by decide)
theorem find_spec (n : Nat) (μ : Mem) (par : List Nat) (a : Nat) (h7 : μ[7]? = some (.inst "Unions" [("above", .ref 8), ("lots", .ref 9), ("merged", .ref 10)])) (h8 : μ[8]? = some (.lst (par.map nv)))
 (U : Up par) (hl : par.length ≤ 8) (ha : a < par.length) : W2 (callD (n + 40) "Unions" (nthM 8 3) [.ref 7, nv a] μ) fun v μ' => v = nv (find par a) ∧ μ' = μ := by
 conv => arg 1; arg 3; whnf
 walk_at "w"
 refine w_whl (I := fun j ρ μ' => ∃ x b : Nat, ρ = ([("self", .ref 7), ("a", nv x)] : List (Str × V)) ∧ μ' = μ ∧ x ≤ j ∧ par[x]? = some b ∧ find par x = find par a) ?_ a _ _ ?_
 ·rintro j ρ μ' ⟨x, b, rfl, rfl, hx, hb, hf⟩
  walk_at "w"
  refine w_idxL (listOf_ref h8) (getI_nv hb (lim8 hl)) ?_
  walk_at "w"
  by_cases hbx : b = x
  ·subst hbx
   refine iJ rfl ?_
   walk_at "w"
   exact ⟨by rw [← hf, find_root hb], rfl⟩
  ·have hlt := U x b hb
   have : (!decide ((b : Int) = (x : Int))) = true := by simpa using (by lia : ¬ ((b : Int) = x))
   rw [if_pos this]
   walk_at "w"
   refine w_idxL (listOf_ref h8) (getI_nv hb (lim8 hl)) ?_
   walk_at "w"
   have hbl : b < par.length := by have := (List.getElem?_eq_some_iff.mp hb).1; solve_by_elim (maxDepth := 4) only [*, Nat.le_of_lt, Nat.lt_of_lt_of_le, Nat.lt_of_le_of_lt, Nat.lt_trans, Nat.le_trans, Nat.ne_of_lt, Nat.ne_of_gt]
   exact .inl ⟨b, by lia, rfl, b, par[b], rfl, rfl, Nat.le_refl _, List.getElem?_eq_getElem hbl, by rw [← find_step U hb, hf]⟩
 ·exact ⟨a, par[a], rfl, rfl, Nat.le_refl _, List.getElem?_eq_getElem ha, rfl⟩
set_option tactic.hygienic false
abbrev Nd := Str × List Nat
noncomputable def ndV (d : Nd) : V := .tup (.str d.1 :: d.2.map nv)
noncomputable def prV (p : Nat × Nat) : V := .tup [nv p.1, nv p.2]
inductive Ch where
 | made (n : Nat)
 | known (d : Nd)
 | edge (kept many gone : Nat) (users : List Nat)
/-- what a heap is -/
structure A where
 nodes : List Nd
 par : List Nat
 len : Nat → Nat
 mrg : List (Nat × Nat)
 edges : List V
 forest : List V
 known : List (Nd × Nat)
 ab : Nat → Option (List Nat)
 ws : List Nat
 ch : List Ch
 mks : List (Nat × List Nat × Nat)
 made : Nat
noncomputable def A.setE (a : A) (l : List V) : A := { a with edges := l }
noncomputable def A.setF (a : A) (l : List V) : A := { a with forest := l }
noncomputable def A.setP (a : A) (l : List Nat) : A := { a with par := l }
noncomputable def A.setM (a : A) (l : List (Nat × Nat)) : A := { a with mrg := l }
noncomputable def A.setL (a : A) (l : Nat → Nat) : A := { a with len := l }
noncomputable def A.setK (a : A) (l : List (Nd × Nat)) : A := { a with known := l }
noncomputable def A.setB (a : A) (l : Nat → Option (List Nat)) : A := { a with ab := l }
noncomputable def A.setWs (a : A) (l : List Nat) : A := { a with ws := l }
noncomputable def A.setCh (a : A) (l : List Ch) : A := { a with ch := l }
noncomputable def A.setMk (a : A) (l : List (Nat × List Nat × Nat)) : A := { a with mks := l }
noncomputable def A.setMade (a : A) (n : Nat) : A := { a with made := n }
noncomputable def A.setN (a : A) (l : List Nd) : A := { a with nodes := l }
/-- how it lies in the memory -/
structure St where
 clock : O
 wa : Option Nat
 backs : Int
 numbers : List (V × V)
 weights : List V
 depths : List V
 lots : List Nat
 above : List (V × V)
 o15 : O
 changes : List V
 marks : List V
 o18 : O
 o19 : O
 tail : List O
 bound : Nat
noncomputable def waddr : Option Nat → Nat
 | none => 15
 | some j => j + 20
noncomputable def lotV (j : Nat) : V := .ref (j + 20)
noncomputable def knV (e : Nd × Nat) : V × V := (ndV e.1, nv e.2)
noncomputable def levO (s : St) (a : A) : O := .inst "Levels" [("bank", .ref 2), ("unions", .ref 7), ("edges", .ref 11), ("forest", .ref 12), ("known", .ref 13), ("above", .ref 14), ("waiting", .ref (waddr s.wa)), ("backs", .int s.backs), ("changes", .ref 16), ("marks", .ref 17), ("made", nv a.made)]
noncomputable def mem (s : St) (a : A) : Mem :=
 s.clock :: levO s a ::
 .inst "Bank" [("nodes", .ref 3), ("numbers", .ref 4), ("weights", .ref 5), ("depths", .ref 6)] :: .lst (a.nodes.map ndV) :: .dict s.numbers :: .lst s.weights :: .lst s.depths ::
 .inst "Unions" [("above", .ref 8), ("lots", .ref 9), ("merged", .ref 10)] :: .lst (a.par.map nv) :: .lst (s.lots.map lotV) :: .lst (a.mrg.map prV) ::
 .lst a.edges :: .lst a.forest :: .dict (a.known.map knV) :: .dict s.above :: s.o15 :: .lst s.changes :: .lst s.marks :: s.o18 :: s.o19 :: s.tail
/-- the shape of a heap: N numbers, at most eight -/
structure Shp (a : A) : Prop where
 up : Up a.par
 len : a.par.length = a.nodes.length
 few : a.nodes.length ≤ 8
 kids : ∀ d ∈ a.nodes, d.2.length ≤ 2 ∧ ∀ k ∈ d.2, k < a.nodes.length
section
variable {s : St} {a : A} {Q : V → Mem → Prop}
theorem ufind (S : Shp a) (n x : Nat) (hx : x < a.nodes.length) (q : Q (nv (find a.par x)) (mem s a)) : W2 (callD (n + 40) "Unions" (nthM 8 3) [.ref 7, nv x] (mem s a)) Q :=
 callD_to (find_spec n (mem s a) a.par x rfl rfl S.up (by rw [S.len]; exact S.few) (by rw [S.len]; exact hx)) q
theorem hfind (S : Shp a) (n x : Nat) (hx : x < a.nodes.length) (q : Q (nv (find a.par x)) (mem s a)) : W2 (callD (n + 50) "Heap" (nthM 10 6) [.ref 1, nv x] (mem s a)) Q := by
 conv => arg 1; arg 3; whnf
 walk_at "w"
 refine w_methI rfl rfl mo_Unions_find ?_
 walk_at "w"
 refine ufind S _ _ hx ?_
 walk_at "w"
 exact q
theorem bsize (S : Shp a) (n : Nat) (q : Q (nv a.nodes.length) (mem s a)) : W2 (callD (n + 20) "Bank" (nthM 6 1) [.ref 2] (mem s a)) Q := by
 conv => arg 1; arg 3; whnf
 walk_at "w"
 refine w_bltn rfl (w_len (xs := a.nodes.map ndV) rfl (by rw [List.length_map]; exact lim8 S.few) ?_)
 walk_at "w"
 rw [List.length_map]
 exact q
theorem hsize (S : Shp a) (n : Nat) (q : Q (nv a.nodes.length) (mem s a)) : W2 (callD (n + 30) "Heap" (nthM 10 1) [.ref 1] (mem s a)) Q := by
 conv => arg 1; arg 3; whnf
 walk_at "w"
 refine w_methI rfl rfl mo_Bank_size ?_
 walk_at "w"
 refine bsize S _ ?_
 walk_at "w"
 exact q
theorem getI_map {α : Type} {f : α → V} {l : List α} {x : Nat} {b : α} (h : l[x]? = some b) (hl : l.length ≤ 8) : getIdx (l.map f) (x : Int) = some (f b) := by
 have : x < l.length := (List.getElem?_eq_some_iff.mp h).1
 rw [getIdx_nat (by have := lim8 hl; solve_by_elim (maxDepth := 4) only [*, Nat.le_of_lt, Nat.lt_of_lt_of_le, Nat.lt_of_le_of_lt, Nat.lt_trans, Nat.le_trans, Nat.ne_of_lt, Nat.ne_of_gt]), List.getElem?_map, h]; rfl
theorem bop (S : Shp a) (n x : Nat) {d : Nd} (hx : a.nodes[x]? = some d) (q : Q (.str d.1) (mem s a)) : W2 (callD (n + 20) "Bank" (nthM 6 7) [.ref 2, nv x] (mem s a)) Q := by
 conv => arg 1; arg 3; whnf
 walk_at "w"
 refine w_idxL (listOf_ref rfl) (getI_map hx S.few) ?_
 walk_at "w"
 refine w_idxT rfl ?_
 walk_at "w"
 exact q
theorem bkids (S : Shp a) (n x : Nat) {d : Nd} (hx : a.nodes[x]? = some d) (q : Q (.tup (d.2.map nv)) (mem s a)) : W2 (callD (n + 20) "Bank" (nthM 6 8) [.ref 2, nv x] (mem s a)) Q := by
 conv => arg 1; arg 3; whnf
 have hk := (S.kids d (List.mem_of_getElem? hx)).1
 walk_at "w"
 refine w_idxL (listOf_ref rfl) (getI_map hx S.few) ?_
 walk_at "w"
 refine w_evo1 ?_
 walk_at "w"
 refine ⟨1, rfl, ?_⟩
 walk_at "w"
 refine w_slT (by simp only [List.length_cons, List.length_map]; unfold limit; lia) (by simp only [List.length_cons]; lia) ?_
 walk_at "w"
 exact q
end
set_option tactic.hygienic true
set_option tactic.hygienic false
theorem put_put (l : Loc) (x : Str) (u v : V) : put (put l x u) x v = put l x v := by
 induction l with
 | nil => simp [put]
 | cons e r ih =>
  obtain ⟨y, w⟩ := e
  by_cases q : x = y
  ·simp [put, q]
  ·simp [put, q, ih]
/-- a comprehension over one name that leaves the memory -/
theorem w_filt {n : Nat} {elt : Expr} {t : Str} {p : Pos} {it : Expr} {cs : List Expr} {ia : Int} {h : Here} {cap : Loc} {μ : Mem} {S : List V → Loc → Mem → Prop} (xs : List V) (f : V → V) (g : V → Bool) (ht : isOwn h.sc t = true) (hl : xs.length ≤ 64)
  (hi : ∀ v, v ∈ xs → W2 (ifs n cs h (put cap t v) μ) fun b μ' => b = g v ∧ μ' = μ)
  (he : ∀ v, v ∈ xs → g v = true → W2 (ev n elt h (put cap t v) μ) fun w μ' => w = f v ∧ μ' = μ)
  (q : ∀ ρ, S ((xs.filter g).map f) ρ μ) : W3 (cmpL n elt ⟨.Name t p, it, cs, ia⟩ [] (.vals xs) 0 h cap [] μ) S := by
 refine w_cmp xs rfl (fun i acc ρ μ' => μ' = μ ∧ acc = ((xs.take i).filter g).map f ∧ (ρ = cap ∨ ∃ v, ρ = put cap t v)) (fun i acc ρ μ' _ _ => at_vals) ?_ ?_ ⟨rfl, rfl, .inl rfl⟩
 ·rintro i v acc ρ μ' hv ⟨rfl, rfl, hρ⟩
  have hm := List.mem_of_getElem? hv
  have h1 : put ρ t v = put cap t v := by
   rcases hρ with rfl | ⟨u, rfl⟩
   ·rfl
   ·exact put_put _ _ _ _
  have htake : xs.take (i + 1) = xs.take i ++ [v] := by
   rw [List.take_add_one, hv]; rfl
  refine w_sname ht ?_
  show W2 _ _
  rw [show (Src.vals xs).wrap i v = v from rfl, h1]
  refine ifs_mono (hi v hm) ?_
  rintro b _ ⟨rfl, rfl⟩
  cases hg : g v with
  | true =>
   rw [if_pos rfl]
   refine ev_mono (he v hm hg) ?_
   rintro w _ ⟨rfl, rfl⟩
   refine ⟨?_, rfl, ?_, .inr ⟨v, rfl⟩⟩
   ·rw [List.length_map]
    exact Nat.lt_of_le_of_lt (Nat.le_trans (List.length_filter_le g _) (Nat.le_trans (List.length_take_le' i xs) hl)) (by decide : 64 < limit)
   ·rw [htake, List.filter_append, List.map_append, List.filter_cons_of_pos hg]; rfl
  | false =>
   rw [if_neg (by simp)]
   refine ⟨rfl, ?_, .inr ⟨v, rfl⟩⟩
   rw [htake, List.filter_append, List.filter_cons_of_neg (by rw [hg]; decide), List.filter_nil, List.append_nil]
 ·rintro acc ρ μ' ⟨rfl, rfl, _⟩
  rw [List.take_length]
  exact q ρ
theorem w_map {n : Nat} {elt : Expr} {t : Str} {p : Pos} {it : Expr} {ia : Int} {h : Here} {cap : Loc} {μ : Mem} {S : List V → Loc → Mem → Prop} (xs : List V) (f : V → V) (ht : isOwn h.sc t = true) (hl : xs.length ≤ 64)
  (he : ∀ v, v ∈ xs → W2 (ev n elt h (put cap t v) μ) fun w μ' => w = f v ∧ μ' = μ)
  (q : ∀ ρ, S (xs.map f) ρ μ) : W3 (cmpL n elt ⟨.Name t p, it, [], ia⟩ [] (.vals xs) 0 h cap [] μ) S := by
 refine w_filt xs f (fun _ => true) ht hl (fun v _ => w_ifs0 ⟨rfl, rfl⟩) (fun v hv _ => he v hv) (fun ρ => ?_)
 rw [List.filter_eq_self.mpr fun _ _ => rfl]; exact q ρ
noncomputable def liftN (g : Nat → V) : V → V
 | .int i => g i.toNat
 | v => v
theorem map_liftN (g : Nat → V) (l : List Nat) : (l.map nv).map (liftN g) = l.map g := by rw [List.map_map]; rfl
section
variable {s : St} {a : A} {Q : V → Mem → Prop}
noncomputable def sigOf (par : List Nat) (d : Nd) : Nd := (d.1, d.2.map (find par))
theorem hnode (S : Shp a) (n x : Nat) {d : Nd} (hx : a.nodes[x]? = some d) (q : Q (ndV (sigOf a.par d)) (mem s a)) : W2 (callD (n + 100) "Heap" (nthM 10 2) [.ref 1, nv x] (mem s a)) Q := by
 conv => arg 1; arg 3; whnf
 have hk := S.kids d (List.mem_of_getElem? hx)
 walk_at "w"
 refine w_methI rfl rfl mo_Bank_op ?_
 walk_at "w"
 refine bop S _ _ hx ?_
 walk_at "w"
 refine w_comp rfl (w_src ?_)
 walk_at "w"
 refine w_methI rfl rfl mo_Bank_kids ?_
 walk_at "w"
 refine bkids S _ _ hx ?_
 refine w_sofT ?_
 refine w_map (d.2.map nv) (liftN fun k => nv (find a.par k)) rfl (by rw [List.length_map]; lia) ?_ (fun ρ => ?_)
 ·intro v hv
  obtain ⟨k, hk', rfl⟩ := List.mem_map.mp hv
  walk_at "w"
  refine w_methI rfl rfl mo_Levels_find ?_
  walk_at "w"
  exact hfind S _ _ (hk.2 k hk') ⟨rfl, rfl⟩
 ·rw [map_liftN]
  walk_at "w"
  refine w_bltn rfl (w_tupL (by rw [List.length_map]; exact lim8 (by lia)) ?_)
  refine w_addT (by simp only [List.length_map, List.length_cons, List.length_nil]; unfold limit; lia) ?_
  walk_at "w"
  have : ndV (sigOf a.par d) = .tup ([.str d.1] ++ d.2.map fun k => nv (find a.par k)) := by simp [ndV, sigOf, Function.comp_def]
  rw [← this]
  exact q
end
set_option tactic.hygienic true
set_option tactic.hygienic false
theorem dget_dput (es : List (V × V)) (k v k' : V) : dget (dput es k v) k' = if k.beq k' = true then some v else dget es k' := by
 induction es with
 | nil => simp [dput, dget]
 | cons e r ih =>
  obtain ⟨y, w⟩ := e
  by_cases h : V.beq y k = true
  ·have := (V.beq_iff y k).mp h; subst this
   simp only [dput, h, if_true, dget]
   split <;> simp_all
  ·simp only [dput, h, Bool.false_eq_true, if_false, dget]
   by_cases h2 : V.beq y k' = true
   ·have := (V.beq_iff y k').mp h2; subst this
    have h3 : ¬ (V.beq k y = true) := fun q => h (by rw [(V.beq_iff k y).mp q]; exact V.beq_self y)
    simp [h2, h3]
   ·simp only [h2, Bool.false_eq_true, if_false, ih]
theorem dget_none_of {es : List (V × V)} {k : V} (h : k ∉ es.map (·.1)) : dget es k = none := by
 induction es with
 | nil => rfl
 | cons e r ih =>
  obtain ⟨y, w⟩ := e
  simp only [List.map_cons, List.mem_cons, not_or] at h
  have : V.beq y k = false := V.beq_ne (fun q => h.1 q.symm)
  simp only [dget, this, Bool.false_eq_true, if_false]
  exact ih h.2
theorem dget_mem {es : List (V × V)} {k v : V} (h : dget es k = some v) : k ∈ es.map (·.1) := by
 by_cases q : k ∈ es.map (·.1)
 ·exact q
 ·rw [dget_none_of q] at h; cases h
theorem dget_ddel {es : List (V × V)} (hn : (es.map (·.1)).Nodup) (k k' : V) : dget (ddel es k) k' = if k.beq k' = true then none else dget es k' := by
 induction es with
 | nil => simp [ddel, dget]
 | cons e r ih =>
  obtain ⟨y, w⟩ := e
  rw [List.map_cons, List.nodup_cons] at hn
  by_cases h : V.beq y k = true
  ·have := (V.beq_iff y k).mp h; subst this
   simp only [ddel, h, if_true, dget]
   by_cases h2 : V.beq y k' = true
   ·have := (V.beq_iff y k').mp h2; subst this
    simp only [h2, if_true]
    exact dget_none_of hn.1
   ·simp only [h2, Bool.false_eq_true, if_false]
  ·simp only [ddel, h, Bool.false_eq_true, if_false, dget]
   by_cases h2 : V.beq y k' = true
   ·have := (V.beq_iff y k').mp h2; subst this
    have h3 : ¬ (V.beq k y = true) := fun q => h (by rw [(V.beq_iff k y).mp q]; exact V.beq_self y)
    simp [h2, h3]
   ·simp only [h2, Bool.false_eq_true, if_false, ih hn.2]
theorem dput_keys (es : List (V × V)) (k v : V) : (k ∈ es.map (·.1) ∧ (dput es k v).map (·.1) = es.map (·.1)) ∨ (k ∉ es.map (·.1) ∧ (dput es k v).map (·.1) = es.map (·.1) ++ [k]) := by
 induction es with
 | nil => simp [dput]
 | cons e r ih =>
  obtain ⟨y, w⟩ := e
  by_cases h : V.beq y k = true
  ·have := (V.beq_iff y k).mp h; subst this
   simp [dput, h]
  ·have hne : ¬ (k = y) := fun q => h (by rw [q]; exact V.beq_self y)
   simp only [dput, h, Bool.false_eq_true, if_false, List.map_cons, List.mem_cons, hne, false_or]
   rcases ih with ⟨h1, h2⟩ | ⟨h1, h2⟩
   ·exact .inl ⟨h1, by rw [h2]⟩
   ·exact .inr ⟨h1, by rw [h2]; rfl⟩
theorem dput_nodup {es : List (V × V)} (hn : (es.map (·.1)).Nodup) (k v : V) : ((dput es k v).map (·.1)).Nodup := by
 rcases dput_keys es k v with ⟨_, h⟩ | ⟨q, h⟩
 ·rw [h]; exact hn
 ·rw [h, List.nodup_append]
  exact ⟨hn, by simp, by rintro a ha b hb rfl; simp at hb; subst hb; exact q ha⟩
theorem ddel_sub (es : List (V × V)) (k : V) : ∀ e ∈ ddel es k, e ∈ es := by
 induction es with
 | nil => simp [ddel]
 | cons e r ih =>
  obtain ⟨y, w⟩ := e
  intro e he
  unfold ddel at he
  split at he
  ·exact .tail _ he
  ·rcases List.mem_cons.mp he with rfl | he
   ·exact .head _
   ·exact .tail _ (ih e he)
theorem ddel_nodup {es : List (V × V)} (hn : (es.map (·.1)).Nodup) (k : V) : ((ddel es k).map (·.1)).Nodup := by
 induction es with
 | nil => simp [ddel]
 | cons e r ih =>
  obtain ⟨y, w⟩ := e
  rw [List.map_cons, List.nodup_cons] at hn
  unfold ddel
  split
  ·exact hn.2
  ·rw [List.map_cons, List.nodup_cons]
   refine ⟨fun q => hn.1 ?_, ih hn.2⟩
   obtain ⟨e, he, hy⟩ := List.mem_map.mp q
   exact List.mem_map.mpr ⟨e, ddel_sub r k e he, hy⟩
theorem dput_len {es : List (V × V)} {k v w : V} (h : dget es k = some w) : (dput es k v).length = es.length := by
 rcases dput_keys es k v with ⟨_, h2⟩ | ⟨q, _⟩
 ·simpa using congrArg List.length h2
 ·exact absurd (dget_mem h) q
theorem dput_len1 (es : List (V × V)) (k v : V) : (dput es k v).length ≤ es.length + 1 := by
 rcases dput_keys es k v with ⟨_, h2⟩ | ⟨_, h2⟩ <;> (have := congrArg List.length h2; simp at this; lia)
theorem ddel_len {es : List (V × V)} {k w : V} (h : dget es k = some w) : (ddel es k).length + 1 = es.length := by
 induction es with
 | nil => cases h
 | cons e r ih =>
  obtain ⟨y, z⟩ := e
  unfold dget at h
  unfold ddel
  split at h
  ·rename_i q; simp [q]
  ·rename_i q; simp [q, ih h]
theorem dput_new {es : List (V × V)} {k : V} (v : V) (h : dget es k = none) : dput es k v = es ++ [(k, v)] := by
 induction es with
 | nil => rfl
 | cons e r ih =>
  obtain ⟨y, z⟩ := e
  unfold dget at h
  split at h
  ·cases h
  ·rename_i q; simp [dput, q, ih h]
theorem ddel_last {es : List (V × V)} {k v : V} (h : dget es k = none) : ddel (es ++ [(k, v)]) k = es := by
 induction es with
 | nil => simp [ddel, V.beq_self]
 | cons e r ih =>
  obtain ⟨y, z⟩ := e
  unfold dget at h
  split at h
  ·cases h
  ·rename_i q; simp [ddel, q, ih h]
theorem dget_app {es : List (V × V)} {k v k' : V} (h : dget es k = none) : dget (es ++ [(k, v)]) k' = if k.beq k' = true then some v else dget es k' := by
 rw [← dput_new v h, dget_dput]
theorem nv_inj {a b : Nat} (h : nv a = nv b) : a = b := by injection h with h; exact_mod_cast h
theorem nvs_inj : ∀ {a b : List Nat}, a.map nv = b.map nv → a = b
 | [], [], _ => rfl
 | [], _ :: _, h => by simp at h
 | _ :: _, [], h => by simp at h
 | x :: a, y :: b, h => by
  simp only [List.map_cons, List.cons.injEq] at h
  rw [nv_inj h.1, nvs_inj h.2]
theorem ndV_inj {a b : Nd} (h : ndV a = ndV b) : a = b := by
 simp only [ndV, V.tup.injEq, List.cons.injEq, V.str.injEq] at h
 exact Prod.ext h.1 (nvs_inj h.2)
theorem ndV_beq (a b : Nd) : (ndV a).beq (ndV b) = (b == a) := by
 rw [Bool.eq_iff_iff, V.beq_iff, beq_iff_eq]
 exact ⟨fun h => (ndV_inj h).symm, fun h => by rw [h]⟩
theorem dget_known (kn : List (Nd × Nat)) (d : Nd) : dget (kn.map knV) (ndV d) = (kn.lookup d).map nv := by
 induction kn with
 | nil => rfl
 | cons e r ih =>
  obtain ⟨y, z⟩ := e
  simp only [List.map_cons, knV, dget, List.lookup_cons, ndV_beq]
  cases d == y
  ·simpa using ih
  ·simp
theorem okKey_known (kn : List (Nd × Nat)) (d : Nd) : okKey (kn.map knV) (ndV d) = true := by
 simp [okKey, ndV, V.key, V.atom, V.isTup, knV]
theorem All2.consI {α β : Type} {R : α → β → Prop} {xs : List α} {y : β} {ys : List β} (h : All2 R xs (y :: ys)) : ∃ x zs, xs = x :: zs ∧ R x y ∧ All2 R zs ys := by
 cases h with | cons a r => exact ⟨_, _, rfl, a, r⟩
theorem All2.unsnoc {α β : Type} {R : α → β → Prop} {y : β} {ys : List β} : ∀ {xs : List α}, All2 R xs (ys ++ [y]) → ∃ zs x, xs = zs ++ [x] ∧ All2 R zs ys ∧ R x y := by
 induction ys with
 | nil =>
  intro xs h
  obtain ⟨x, zs, rfl, a, r⟩ := h.consI
  cases r
  exact ⟨[], x, rfl, .nil, a⟩
 | cons _ _ ih =>
  intro xs h
  obtain ⟨x, zs, rfl, a, r⟩ := h.consI
  obtain ⟨zs, z, rfl, q, hx⟩ := ih r
  exact ⟨x :: zs, z, rfl, .cons a q, hx⟩
/-- a list of users -/
noncomputable def AL (s : St) (w : V) (us : List Nat) : Prop := w = .lst (us.map nv) ∨ ∃ j, j < s.bound ∧ j ∉ s.lots ∧ w = .ref (j + 20) ∧ s.tail[j]? = some (.lst (us.map nv))
inductive ChR (s : St) : V → Ch → Prop
 | made (n : Nat) : ChR s (.tup [.str "made", nv n]) (.made n)
 | known (d : Nd) : ChR s (.tup [.str "known", ndV d]) (.known d)
 | edge (k m g : Nat) {w : V} {us : List Nat} : AL s w us → ChR s (.tup [.str "edge", nv k, nv m, nv g, w]) (.edge k m g us)
noncomputable def MkR (s : St) (v : V) (m : Nat × List Nat × Nat) : Prop := ∃ j, v = .tup [nv m.1, .ref (j + 20)] ∧ s.bound ≤ j ∧ s.wa ≠ some j ∧ s.tail[j]? = some (.lst (m.2.1.map nv)) ∧ m.2.2 ≤ j
noncomputable def WaOk (s : St) (ws : List Nat) : Prop := match s.wa with
 | none => s.o15 = .lst (ws.map nv)
 | some j => s.bound ≤ j ∧ s.tail[j]? = some (.lst (ws.map nv))
structure Rep (s : St) (a : A) : Prop where
 lotsN : s.lots.length = a.nodes.length
 lotsD : s.lots.Nodup
 lotsB : ∀ j ∈ s.lots, j < s.bound
 lens : ∀ i j, s.lots[i]? = some j → ∃ xs, s.tail[j]? = some (.lst xs) ∧ xs.length = a.len i
 bnd : s.bound ≤ s.tail.length
 wa : WaOk s a.ws
 abK : ∀ k ∈ s.above.map (·.1), ∃ c : Nat, k = nv c
 abD : (s.above.map (·.1)).Nodup
 abN : ∀ c : Nat, a.ab c = none → dget s.above (nv c) = none
 abS : ∀ (c : Nat) us, a.ab c = some us → ∃ w, dget s.above (nv c) = some w ∧ AL s w us
 abL : s.above.length + a.mrg.length ≤ 8
 ch : All2 (ChR s) s.changes a.ch
 mrk : All2 (MkR s) s.marks a.mks
/-- what a run leaves as it was -/
structure Fr (s s' : St) : Prop where
 bound : s'.bound = s.bound
 lots : s'.lots = s.lots
 more : s.tail.length ≤ s'.tail.length
 wa : s'.wa = s.wa ∨ ∃ j, s'.wa = some j ∧ s.tail.length ≤ j
 keep : ∀ j, j < s.tail.length → j ∉ s.lots → s.wa ≠ some j → s'.tail[j]? = s.tail[j]?
 clock : s'.clock = s.clock
 o18 : s'.o18 = s.o18
 o19 : s'.o19 = s.o19
theorem Fr.refl (s : St) : Fr s s := ⟨rfl, rfl, Nat.le_refl _, .inl rfl, fun _ _ _ _ => rfl, rfl, rfl, rfl⟩
theorem Fr.trans {s s' s'' : St} (f : Fr s s') (g : Fr s' s'') : Fr s s'' := by
 refine ⟨g.bound.trans f.bound, g.lots.trans f.lots, Nat.le_trans f.more g.more, ?_, fun j h1 h2 h3 => ?_, g.clock.trans f.clock, g.o18.trans f.o18, g.o19.trans f.o19⟩
 ·rcases g.wa with e | ⟨j, e, h⟩
  ·rw [e]; exact f.wa
  ·exact .inr ⟨j, e, Nat.le_trans f.more h⟩
 ·rw [g.keep j (Nat.lt_of_lt_of_le h1 f.more) (by rw [f.lots]; exact h2) ?_, f.keep j h1 h2 h3]
  rcases f.wa with e | ⟨j', e, h⟩
  ·rw [e]; exact h3
  ·rw [e]; intro q; cases q; exact absurd (by assumption) (Nat.not_le_of_lt (by assumption))
section
variable {s s' : St} {a : A}
theorem Rep.waB (R : Rep s a) {j : Nat} (h : s.wa = some j) : s.bound ≤ j := by
 have := R.wa
 unfold WaOk at this
 rw [h] at this
 exact this.1
theorem AL.fr (f : Fr s s') (hb : s.bound ≤ s.tail.length) (hw : ∀ j, s.wa = some j → s.bound ≤ j) {w : V} {us : List Nat} (x : AL s w us) : AL s' w us := by
 rcases x with rfl | ⟨j, h1, h2, rfl, h3⟩
 ·exact .inl rfl
 ·refine .inr ⟨j, by rw [f.bound]; exact h1, by rw [f.lots]; exact h2, rfl, ?_⟩
  rw [f.keep j (by solve_by_elim (maxDepth := 4) only [*, Nat.le_of_lt, Nat.lt_of_lt_of_le, Nat.lt_of_le_of_lt, Nat.lt_trans, Nat.le_trans, Nat.ne_of_lt, Nat.ne_of_gt]) h2 (fun e => by have := hw j e; exact absurd (by assumption) (Nat.not_le_of_lt (by assumption)))]
  exact h3
theorem ChR.fr (f : Fr s s') (hb : s.bound ≤ s.tail.length) (hw : ∀ j, s.wa = some j → s.bound ≤ j) {v : V} {c : Ch} (x : ChR s v c) : ChR s' v c := by
 cases x with
 | made n => exact .made n
 | known d => exact .known d
 | edge k m g h => exact .edge k m g (h.fr f hb hw)
theorem AL.listOf {s : St} {a : A} {w : V} {us : List Nat} (x : AL s w us) : Mine.listOf w (mem s a) = some (us.map nv) := by
 rcases x with rfl | ⟨j, _, _, rfl, h⟩
 ·rfl
 ·exact listOf_ref (xs := us.map nv) (by show s.tail[j]? = _; exact h)
end
set_option tactic.hygienic true
noncomputable def St.push (s : St) (o : O) : St := { s with tail := s.tail ++ [o] }
noncomputable def St.setT (s : St) (j : Nat) (o : O) : St := { s with tail := s.tail.set j o }
noncomputable def upd {β : Type} (f : Nat → β) (k : Nat) (v : β) : Nat → β := fun c => if c = k then v else f c
noncomputable def A.us (a : A) (c : Nat) : List Nat := (a.ab c).getD []
theorem mem_push (s : St) (a : A) (o : O) : mem s a ++ [o] = mem (s.push o) a := rfl
theorem mem_len (s : St) (a : A) : (mem s a).length = s.tail.length + 20 := rfl
theorem sort2 (x y : Nat) : (sortI [(x : Int), (y : Int)]).map V.int = [nv (min x y), nv (max x y)] := by
 simp only [sortI, insI]
 by_cases h : x ≤ y
 ·have : (x : Int) ≤ y := by exact_mod_cast h
  simp [this, Nat.min_eq_left h, Nat.max_eq_right h]
 ·have h2 : ¬ ((x : Int) ≤ y) := by exact_mod_cast h
  simp [h2, Nat.min_eq_right (Nat.le_of_not_le h), Nat.max_eq_left (Nat.le_of_not_le h)]
section
variable {s : St} {a : A}
theorem Rep.push (R : Rep s a) (o : O) : Rep (s.push o) a := by
 have hg : ∀ j, j < s.tail.length → (s.push o).tail[j]? = s.tail[j]? := fun j h => List.getElem?_append_left h
 have hw : ∀ j, s.wa = some j → j < s.tail.length := by
  intro j e
  have := R.wa
  unfold WaOk at this
  rw [e] at this
  exact (List.getElem?_eq_some_iff.mp this.2).1
 have hAL : ∀ {w us}, AL s w us → AL (s.push o) w us := by
  rintro w us (rfl | ⟨j, h1, h2, rfl, h3⟩)
  ·exact .inl rfl
  ·exact .inr ⟨j, h1, h2, rfl, by rw [hg j (List.getElem?_eq_some_iff.mp h3).1]; exact h3⟩
 refine ⟨R.lotsN, R.lotsD, R.lotsB, fun i j h => ?_, ?_, ?_, R.abK, R.abD, R.abN, fun c us h => ?_, R.abL, R.ch.imp fun v c x => ?_, R.mrk.imp fun v m x => ?_⟩
 ·obtain ⟨xs, h1, h2⟩ := R.lens i j h
  exact ⟨xs, by rw [hg j (List.getElem?_eq_some_iff.mp h1).1]; exact h1, h2⟩
 ·show s.bound ≤ (s.tail ++ [o]).length
  have := R.bnd
  simp; solve_by_elim (maxDepth := 3) only [*, Nat.lt_of_lt_of_le, Nat.lt_of_le_of_lt, Nat.lt_trans, Nat.le_trans]
 ·have := R.wa
  unfold WaOk at this ⊢
  show match s.wa with | none => _ | some j => _
  split
  ·rename_i e; rw [e] at this; exact this
  ·rename_i j e; rw [e] at this; exact ⟨this.1, by rw [hg j (hw j e)]; exact this.2⟩
 ·obtain ⟨w, h1, h2⟩ := R.abS c us h
  exact ⟨w, h1, hAL h2⟩
 ·cases x with
  | made n => exact .made n
  | known d => exact .known d
  | edge k m g h => exact .edge k m g (hAL h)
 ·obtain ⟨j, h1, h2, h3, h4, h5⟩ := x
  exact ⟨j, h1, h2, h3, by rw [hg j (List.getElem?_eq_some_iff.mp h4).1]; exact h4, h5⟩
theorem Fr.push (s : St) (o : O) : Fr s (s.push o) := ⟨rfl, rfl, by simp [St.push], .inl rfl, fun j h _ _ => List.getElem?_append_left h, rfl, rfl, rfl⟩
theorem findB (S : Shp a) {x : Nat} (hx : x < a.nodes.length) : a.par[find a.par x]? = some (find a.par x) := by
 suffices h : ∀ f x, x ≤ f → x < a.nodes.length → a.par[find a.par x]? = some (find a.par x) from h x x (Nat.le_refl _) hx
 intro f
 induction f with
 | zero =>
  intro x h hx
  have : x = 0 := by exact Nat.eq_zero_of_le_zero (by assumption)
  subst this
  have h0 : 0 < a.par.length := by rw [S.len]; exact hx
  have e : a.par[0]? = some a.par[0] := List.getElem?_eq_getElem h0
  have : a.par[0] = 0 := by have := S.up 0 _ e; exact Nat.eq_zero_of_le_zero (by assumption)
  rw [this] at e
  rw [find_root e]; exact e
 | succ f ih =>
  intro x h hx
  have h0 : x < a.par.length := by rw [S.len]; exact hx
  have e : a.par[x]? = some a.par[x] := List.getElem?_eq_getElem h0
  by_cases q : a.par[x] = x
  ·rw [q] at e; rw [find_root e]; exact e
  ·have hu := S.up x _ e
   rw [find_step S.up e]
   have hlt := Nat.lt_of_le_of_ne hu q
   exact ih _ (Nat.le_of_lt_succ (Nat.lt_of_lt_of_le hlt h)) (Nat.lt_trans hlt hx)
theorem findLt (S : Shp a) {x : Nat} (hx : x < a.nodes.length) : find a.par x < a.nodes.length := by
 have := (List.getElem?_eq_some_iff.mp (findB S hx)).1
 rw [S.len] at this; exact this
theorem sort_step {Q : V → Mem → Prop} {x y : Nat} {s : St} {a : A} (q : Q (.lst [nv (min x y), nv (max x y)]) (mem (s.push (.lst [nv x, nv y])) a)) :
  W2 (bltn "sorted" [.ref (mem s a).length] (mem s a ++ [.lst [nv x, nv y]])) Q := by
 refine w_sorted (xs := [nv x, nv y]) (is := [(x : Int), y]) (listOf_ref (by simp)) rfl (by show 2 < 64; decide) ?_
 rw [sort2]; exact q
theorem tail_get (s : St) (a : A) (j : Nat) : (mem s a)[j + 20]? = s.tail[j]? := rfl
theorem tail_set (s : St) (a : A) (j : Nat) (o : O) : (mem s a).set (j + 20) o = mem (s.setT j o) a := rfl
theorem app_merged {Q : V → Mem → Prop} {k g : Nat} (h : a.mrg.length ≤ 2000) (q : Q .none (mem s (a.setM (a.mrg ++ [(k, g)])))) : W2 (lstC 10 "append" [.tup [nv k, nv g]] (mem s a)) Q := by
 refine w_append (xs := a.mrg.map prV) rfl (by rw [List.length_map]; exact Nat.lt_of_le_of_lt h (by decide)) ?_
 have e : (mem s a).set 10 (.lst (a.mrg.map prV ++ [.tup [nv k, nv g]])) = mem s (a.setM (a.mrg ++ [(k, g)])) := by
  rw [show a.mrg.map prV ++ [.tup [nv k, nv g]] = (a.mrg ++ [(k, g)]).map prV by simp [prV]]; rfl
 rw [e]; exact q
theorem set_par {Q : Mem → Prop} {k g : Nat} (hg : g < a.par.length) (h : a.par.length ≤ 8) (q : Q (mem s (a.setP (a.par.set g k)))) : WS (stI (.ref 8) (nv g) (nv k) (mem s a)) Q := by
 refine w_sitemL (vs := a.par.map nv) rfl ⟨by exact Int.natCast_nonneg _, by rw [List.length_map]; exact_mod_cast hg, by rw [List.length_map]; exact lim8 h⟩ ?_
 have e1 : (mem s a).set 8 (.lst ((a.par.map nv).set ((g : Int)).toNat (nv k))) = mem s (a.setP (a.par.set g k)) := by
  rw [Int.toNat_natCast, ← List.map_set]; rfl
 rw [e1]; exact q
theorem ext_lot {Q : V → Mem → Prop} {jk jg : Nat} {xs ys : List V} (hx : s.tail[jk]? = some (.lst xs)) (hy : s.tail[jg]? = some (.lst ys)) (h : xs.length + ys.length ≤ 10000) (q : Q .none (mem (s.setT jk (.lst (xs ++ ys))) a)) : W2 (lstC (jk + 20) "extend" [.ref (jg + 20)] (mem s a)) Q :=
 w_extend (by rw [tail_get]; exact hx) (listOf_ref (by rw [tail_get]; exact hy)) (by unfold limit; exact Nat.lt_of_le_of_lt (by assumption) (by decide)) q
theorem merge_same (S : Shp a) (n : Nat) {x y : Nat} (hx : x < a.nodes.length) (hy : y < a.nodes.length) (he : find a.par x = find a.par y) {Q : V → Mem → Prop}
  (q : ∀ s', s' = s.push (.lst [nv (find a.par x), nv (find a.par y)]) → Q .none (mem s' a)) : W2 (callD (n + 80) "Unions" (nthM 8 4) [.ref 7, nv x, nv y] (mem s a)) Q := by
 conv => arg 1; arg 3; whnf
 walk_at "w"
 refine w_methI rfl rfl mo_Unions_find ?_
 walk_at "w"
 refine ufind S _ _ hx ?_
 walk_at "w"
 refine w_methI rfl rfl mo_Unions_find ?_
 walk_at "w"
 refine ufind S _ _ hy ?_
 walk_at "w"
 refine w_bltn rfl (sort_step ?_)
 walk_at "w"
 rw [he, Nat.min_self, Nat.max_self]
 refine iD rfl ?_
 walk_at "w"
 exact q _ (by rw [he])
theorem merge_diff (R : Rep s a) (S : Shp a) (n : Nat) {x y k g : Nat} (hx : x < a.nodes.length) (hy : y < a.nodes.length) (hk : k = min (find a.par x) (find a.par y)) (hg : g = max (find a.par x) (find a.par y)) (he : k ≠ g)
  (hlim : ∀ i, a.len i ≤ 1000) (hm : a.mrg.length ≤ 1000) {Q : V → Mem → Prop}
  (q : ∀ s' jk xs, s.lots[k]? = some jk → xs.length = a.len k + a.len g → s' = (s.push (.lst [nv (find a.par x), nv (find a.par y)])).setT jk (.lst xs) → Q (.tup [nv k, nv g]) (mem s' ((a.setP (a.par.set g k)).setM (a.mrg ++ [(k, g)])))) :
  W2 (callD (n + 80) "Unions" (nthM 8 4) [.ref 7, nv x, nv y] (mem s a)) Q := by
 have fx := findLt S hx
 have fy := findLt S hy
 have hkN : k < a.nodes.length := by rw [hk]; exact Nat.lt_of_le_of_lt (Nat.min_le_left _ _) fx
 have hgN : g < a.nodes.length := by rw [hg]; exact Nat.max_lt.mpr ⟨fx, fy⟩
 have R' := R.push (.lst [nv (find a.par x), nv (find a.par y)])
 have hN := R'.lotsN
 obtain ⟨jk, ek⟩ : ∃ jk, s.lots[k]? = some jk := ⟨_, List.getElem?_eq_getElem (Nat.lt_of_lt_of_eq hkN hN.symm)⟩
 obtain ⟨jg, eg⟩ : ∃ jg, s.lots[g]? = some jg := ⟨_, List.getElem?_eq_getElem (Nat.lt_of_lt_of_eq hgN hN.symm)⟩
 obtain ⟨xs, hxs, lxs⟩ := R'.lens k jk ek
 obtain ⟨ys, hys, lys⟩ := R'.lens g jg eg
 have hl8 : s.lots.length ≤ 8 := Nat.le_trans (Nat.le_of_eq hN) S.few
 refine (?_ : ∀ s1, s1 = s.push (.lst [nv (find a.par x), nv (find a.par y)]) → _) _ rfl
 intro s1 hs1
 rw [← hs1] at hxs hys
 have ek1 : s1.lots[k]? = some jk := by rw [hs1]; exact ek
 have eg1 : s1.lots[g]? = some jg := by rw [hs1]; exact eg
 have hl1 : s1.lots.length ≤ 8 := by rw [hs1]; exact hl8
 conv => arg 1; arg 3; whnf
 walk_at "w"
 refine w_methI rfl rfl mo_Unions_find ?_
 walk_at "w"
 refine ufind S _ _ hx ?_
 walk_at "w"
 refine w_methI rfl rfl mo_Unions_find ?_
 walk_at "w"
 refine ufind S _ _ hy ?_
 walk_at "w"
 refine w_bltn rfl (sort_step ?_)
 rw [← hk, ← hg, ← hs1]
 walk_at "w"
 have : ¬ ((k : Int) = g) := by exact_mod_cast he
 refine iN this ?_
 walk_at "w"
 refine set_par (by rw [S.len]; exact hgN) (by rw [S.len]; exact S.few) ?_
 walk_at "w"
 refine w_idxL (listOf_ref rfl) (getI_map (f := lotV) ek1 hl1) ?_
 refine w_methL (xs := xs) (by rw [← hxs]; rfl) ?_
 walk_at "w"
 refine w_idxL (listOf_ref rfl) (getI_map (f := lotV) eg1 hl1) ?_
 walk_at "w"
 have l1 := hlim k
 have l2 := hlim g
 refine ext_lot hxs hys (Nat.le_trans (Nat.add_le_add (Nat.le_trans (Nat.le_of_eq lxs) l1) (Nat.le_trans (Nat.le_of_eq lys) l2)) (by decide)) ?_
 walk_at "w"
 refine w_methL rfl ?_
 walk_at "w"
 refine app_merged (by show a.mrg.length ≤ _; exact Nat.le_trans (by assumption) (Nat.le_add_left _ _)) ?_
 walk_at "w"
 exact q _ jk (xs ++ ys) ek (by rw [List.length_append, lxs, lys]) (by rw [hs1])
end
noncomputable def St.setAb (s : St) (es : List (V × V)) : St := { s with above := es }
noncomputable def St.setCh (s : St) (cs : List V) : St := { s with changes := cs }
noncomputable def St.setMk (s : St) (cs : List V) : St := { s with marks := cs }
noncomputable def St.setW (s : St) (l : List V) : St := match s.wa with
 | none => { s with o15 := .lst l }
 | some j => s.setT j (.lst l)
theorem wa_set (s : St) (a : A) (l : List V) : (mem s a).set (waddr s.wa) (.lst l) = mem (s.setW l) a := by
 cases s with | mk clock wa backs numbers weights depths lots above o15 changes marks o18 o19 tail bound => cases wa <;> rfl
theorem wa_get {s : St} {a : A} {ws : List Nat} (h : WaOk s ws) : (mem s a)[waddr s.wa]? = some (.lst (ws.map nv)) := by
 cases s with | mk clock wa backs numbers weights depths lots above o15 changes marks o18 o19 tail bound =>
 cases wa with
 | none => unfold WaOk at h; simp only at h; subst h; rfl
 | some j => unfold WaOk at h; simp only at h; exact h.2
theorem setW_wa (s : St) (l : List V) : (s.setW l).wa = s.wa := by unfold St.setW; split <;> rfl
theorem setW_lots (s : St) (l : List V) : (s.setW l).lots = s.lots := by unfold St.setW; split <;> rfl
theorem setW_bound (s : St) (l : List V) : (s.setW l).bound = s.bound := by unfold St.setW; split <;> rfl
theorem setW_above (s : St) (l : List V) : (s.setW l).above = s.above := by unfold St.setW; split <;> rfl
theorem setW_changes (s : St) (l : List V) : (s.setW l).changes = s.changes := by unfold St.setW; split <;> rfl
theorem setW_marks (s : St) (l : List V) : (s.setW l).marks = s.marks := by unfold St.setW; split <;> rfl
theorem setW_tail (s : St) (l : List V) (j : Nat) (h : s.wa ≠ some j) : (s.setW l).tail[j]? = s.tail[j]? := by
 unfold St.setW
 split
 ·rfl
 ·rename_i j' e
  show (s.tail.set j' _)[j]? = _
  rw [List.getElem?_set_ne]
  rintro rfl; exact h e
theorem setW_len (s : St) (l : List V) : (s.setW l).tail.length = s.tail.length := by
 unfold St.setW
 split
 ·rfl
 ·show (s.tail.set _ _).length = _
  simp
theorem Fr.setW (s : St) (l : List V) : Fr s (s.setW l) := by
 refine ⟨setW_bound s l, setW_lots s l, Nat.le_of_eq (setW_len s l).symm, .inl (setW_wa s l), fun j _ _ h => setW_tail s l j h, ?_, ?_, ?_⟩ <;> (unfold St.setW; split <;> rfl)
theorem Fr.setLot {s : St} {i jk : Nat} (h : s.lots[i]? = some jk) (o : O) : Fr s (s.setT jk o) := by
 refine ⟨rfl, rfl, by simp [St.setT], .inl rfl, fun j _ h2 _ => ?_, rfl, rfl, rfl⟩
 show (s.tail.set jk o)[j]? = _
 rw [List.getElem?_set_ne]
 rintro rfl; exact h2 (List.mem_of_getElem? h)
section
variable {s : St} {a : A}
/-- carries a Rep over a change that leaves what lies below -/
theorem Rep.carry {s' : St} {a' : A} (R : Rep s a) (f : Fr s s') (hwa : s'.wa = s.wa) (hn : a'.nodes = a.nodes) (lens : ∀ i j, s'.lots[i]? = some j → ∃ xs, s'.tail[j]? = some (.lst xs) ∧ xs.length = a'.len i) (wa : WaOk s' a'.ws)
  (abK : ∀ k ∈ s'.above.map (·.1), ∃ c : Nat, k = nv c) (abD : (s'.above.map (·.1)).Nodup) (abN : ∀ c : Nat, a'.ab c = none → dget s'.above (nv c) = none)
  (abS : ∀ (c : Nat) us, a'.ab c = some us → ∃ w, dget s'.above (nv c) = some w ∧ (a.ab c = some us ∧ dget s.above (nv c) = some w ∨ AL s w us)) (abL : s'.above.length + a'.mrg.length ≤ 8)
  (ch : All2 (ChR s) s'.changes a'.ch) (hm : s'.marks = s.marks) (hk : a'.mks = a.mks) : Rep s' a' := by
 have hw : ∀ j, s.wa = some j → s.bound ≤ j := fun j e => R.waB e
 refine ⟨by rw [f.lots, hn]; exact R.lotsN, by rw [f.lots]; exact R.lotsD, fun j h => by rw [f.lots] at h; rw [f.bound]; exact R.lotsB j h, lens, by rw [f.bound]; exact Nat.le_trans R.bnd f.more, wa, abK, abD, abN, fun c us h => ?_, abL, ch.imp fun v c x => x.fr f R.bnd hw, ?_⟩
 ·obtain ⟨w, h1, h2⟩ := abS c us h
  refine ⟨w, h1, ?_⟩
  rcases h2 with ⟨h3, h4⟩ | h2
  ·obtain ⟨w', h5, h6⟩ := R.abS c us h3
   rw [h4] at h5; cases h5
   exact h6.fr f R.bnd hw
  ·exact h2.fr f R.bnd hw
 ·rw [hm, hk]
  refine R.mrk.imp fun v m x => ?_
  obtain ⟨j, h1, h2, h3, h4, h5⟩ := x
  refine ⟨j, h1, by rw [f.bound]; exact h2, by rw [hwa]; exact h3, ?_, h5⟩
  rw [f.keep j (List.getElem?_eq_some_iff.mp h4).1 (fun q => Nat.not_lt_of_le ‹_› (R.lotsB j q)) h3]
  exact h4
theorem Rep.lens' {s' : St} (R : Rep s a) (hl : s'.lots = s.lots) (ht : ∀ j ∈ s.lots, s'.tail[j]? = s.tail[j]?) : ∀ i j, s'.lots[i]? = some j → ∃ xs, s'.tail[j]? = some (.lst xs) ∧ xs.length = a.len i := by
 intro i j h
 rw [hl] at h
 obtain ⟨xs, h1, h2⟩ := R.lens i j h
 exact ⟨xs, by rw [ht j (List.mem_of_getElem? h)]; exact h1, h2⟩
theorem WaOk.of {s s' : St} {ws : List Nat} (h : WaOk s ws) (e : s'.wa = s.wa) (eb : s'.bound = s.bound) (e15 : s.wa = none → s'.o15 = s.o15) (et : ∀ j, s.wa = some j → s.bound ≤ j → s'.tail[j]? = s.tail[j]?) : WaOk s' ws := by
 unfold WaOk at h ⊢
 rw [e]
 split
 ·rename_i q; rw [q] at h; rw [e15 q]; exact h
 ·rename_i j q; rw [q] at h; exact ⟨by rw [eb]; exact h.1, by rw [et j q h.1]; exact h.2⟩
theorem Rep.waNot (R : Rep s a) {j : Nat} (h : j ∈ s.lots) : s.wa ≠ some j := fun e => Nat.not_le_of_lt (R.lotsB j h) (R.waB e)
theorem Rep.setW (R : Rep s a) (l : List Nat) : Rep (s.setW (l.map nv)) (a.setWs l) := by
 refine R.carry (Fr.setW s _) (setW_wa s _) rfl (R.lens' (setW_lots s _) fun j h => setW_tail s _ j (R.waNot h)) ?_ ?_ ?_ ?_ ?_ ?_ ?_ (setW_marks s _) rfl
 ·unfold WaOk
  rw [setW_wa]
  have hw := R.wa
  unfold WaOk at hw
  split
  ·rename_i q; unfold St.setW; rw [q]; rfl
  ·rename_i j q
   rw [q] at hw
   refine ⟨by rw [setW_bound]; exact hw.1, ?_⟩
   unfold St.setW; rw [q]
   show (s.tail.set j _)[j]? = _
   rw [List.getElem?_set_self (List.getElem?_eq_some_iff.mp hw.2).1]; rfl
 ·rw [setW_above]; exact R.abK
 ·rw [setW_above]; exact R.abD
 ·rw [setW_above]; exact R.abN
 ·rw [setW_above]; intro c us h; obtain ⟨w, h1, h2⟩ := R.abS c us h; exact ⟨w, h1, .inr h2⟩
 ·rw [setW_above]; exact R.abL
 ·rw [setW_changes]; exact R.ch
theorem Rep.setLot (R : Rep s a) {i jk : Nat} (h : s.lots[i]? = some jk) (xs : List V) : Rep (s.setT jk (.lst xs)) (a.setL (upd a.len i xs.length)) := by
 have hj := List.mem_of_getElem? h
 refine R.carry (Fr.setLot h _) rfl rfl ?_ (R.wa.of rfl rfl (fun _ => rfl) fun j e _ => ?_) R.abK R.abD R.abN (fun c us h => ?_) R.abL R.ch rfl rfl
 ·intro i' j' h'
  have h' : s.lots[i']? = some j' := h'
  by_cases q : j' = jk
  ·subst q
   have : i' = i := (List.getElem?_inj (l := s.lots) (List.getElem?_eq_some_iff.mp h').1 R.lotsD).mp (h'.trans h.symm)
   subst this
   obtain ⟨ys, h1, _⟩ := R.lens i' j' h
   refine ⟨xs, ?_, by show _ = upd a.len i' xs.length i'; simp [upd]⟩
   show (s.tail.set j' _)[j']? = _
   rw [List.getElem?_set_self (List.getElem?_eq_some_iff.mp h1).1]
  ·obtain ⟨ys, h1, h2⟩ := R.lens i' j' h'
   refine ⟨ys, ?_, ?_⟩
   ·show (s.tail.set jk _)[j']? = _
    rw [List.getElem?_set_ne (fun e => q e.symm)]; exact h1
   ·have : i' ≠ i := by rintro rfl; rw [h] at h'; cases h'; exact q rfl
    show _ = upd a.len i xs.length i'
    simp [upd, this, h2]
 ·show (s.tail.set jk _)[j]? = _
  rw [List.getElem?_set_ne]
  rintro rfl; exact R.waNot hj e
 ·obtain ⟨w, h1, h2⟩ := R.abS c us h; exact ⟨w, h1, .inr h2⟩
theorem Fr.plain {s s' : St} (h1 : s'.bound = s.bound) (h2 : s'.lots = s.lots) (h3 : s'.tail = s.tail) (h4 : s'.wa = s.wa) (h5 : s'.clock = s.clock) (h6 : s'.o18 = s.o18) (h7 : s'.o19 = s.o19) : Fr s s' :=
 ⟨h1, h2, by rw [h3]; exact Nat.le_refl _, .inl h4, fun _ _ _ _ => by rw [h3], h5, h6, h7⟩
theorem Rep.setCh (R : Rep s a) {cs : List V} {ds : List Ch} (h : All2 (ChR s) cs ds) : Rep (s.setCh cs) (a.setCh ds) :=
 R.carry (Fr.plain rfl rfl rfl rfl rfl rfl rfl) rfl rfl R.lens (R.wa.of rfl rfl (fun _ => rfl) fun _ _ _ => rfl) R.abK R.abD R.abN (fun c us h => let ⟨w, h1, h2⟩ := R.abS c us h; ⟨w, h1, .inr h2⟩) R.abL h rfl rfl
theorem Rep.setAb (R : Rep s a) {es : List (V × V)} {f : Nat → Option (List Nat)} {m : List (Nat × Nat)} (abK : ∀ k ∈ es.map (·.1), ∃ c : Nat, k = nv c) (abD : (es.map (·.1)).Nodup) (abN : ∀ c : Nat, f c = none → dget es (nv c) = none)
  (abS : ∀ (c : Nat) us, f c = some us → ∃ w, dget es (nv c) = some w ∧ (a.ab c = some us ∧ dget s.above (nv c) = some w ∨ AL s w us)) (abL : es.length + m.length ≤ 8) : Rep (s.setAb es) ((a.setB f).setM m) :=
 R.carry (Fr.plain rfl rfl rfl rfl rfl rfl rfl) rfl rfl R.lens (R.wa.of rfl rfl (fun _ => rfl) fun _ _ _ => rfl) abK abD abN abS abL R.ch rfl rfl
/-- the parts that Rep does not look at -/
theorem Rep.free (R : Rep s a) {s' : St} {a' : A} (h1 : s'.bound = s.bound) (h2 : s'.lots = s.lots) (h3 : s'.tail = s.tail) (h4 : s'.wa = s.wa) (h5 : s'.o15 = s.o15) (h6 : s'.above = s.above) (h7 : s'.changes = s.changes) (h8 : s'.marks = s.marks)
  (g1 : a'.nodes = a.nodes) (g2 : a'.len = a.len) (g3 : a'.mrg = a.mrg) (g4 : a'.ab = a.ab) (g5 : a'.ws = a.ws) (g6 : a'.ch = a.ch) (g7 : a'.mks = a.mks) : Rep s' a' := by
 obtain ⟨q1, q2, q3, q4, q5, q6, q7, q8, q9, q10, q11, q12, q13⟩ := R
 have hAL : ∀ {w us}, AL s w us → AL s' w us := by
  rintro w us (rfl | ⟨j, e1, e2, rfl, e3⟩)
  ·exact .inl rfl
  ·exact .inr ⟨j, by rw [h1]; exact e1, by rw [h2]; exact e2, rfl, by rw [h3]; exact e3⟩
 refine ⟨by rw [h2, g1]; exact q1, by rw [h2]; exact q2, by rw [h2, h1]; exact q3, by rw [h2, h3, g2]; exact q4, by rw [h1, h3]; exact q5, ?_, by rw [h6]; exact q7, by rw [h6]; exact q8, by rw [h6, g4]; exact q9, ?_, by rw [h6, g3]; exact q11, ?_, ?_⟩
 ·rw [g5]; exact q6.of h4 h1 (fun _ => h5) fun _ _ _ => by rw [h3]
 ·rw [h6, g4]; intro c us h; obtain ⟨w, e1, e2⟩ := q10 c us h; exact ⟨w, e1, hAL e2⟩
 ·rw [h7, g6]
  refine q12.imp fun v c x => ?_
  cases x with
  | made n => exact .made n
  | known d => exact .known d
  | edge k m g h => exact .edge k m g (hAL h)
 ·rw [h8, g7]
  refine q13.imp fun v m x => ?_
  obtain ⟨j, e1, e2, e3, e4, e5⟩ := x
  exact ⟨j, e1, by rw [h1]; exact e2, by rw [h4]; exact e3, by rw [h3]; exact e4, e5⟩
end
section
variable {s : St} {a : A} {Q : V → Mem → Prop} {v : V}
theorem app_forest (l : List V) (e : a.forest = l) (h : l.length ≤ 2000) (q : Q .none (mem s (a.setF (l ++ [v])))) : W2 (lstC 12 "append" [v] (mem s a)) Q := by subst e; exact w_append rfl (Nat.lt_of_le_of_lt h (by decide)) q
theorem app_changes (l : List V) (e : s.changes = l) (h : l.length ≤ 2000) (q : Q .none (mem (s.setCh (l ++ [v])) a)) : W2 (lstC 16 "append" [v] (mem s a)) Q := by subst e; exact w_append rfl (Nat.lt_of_le_of_lt h (by decide)) q
theorem app_marks (l : List V) (e : s.marks = l) (h : l.length ≤ 2000) (q : Q .none (mem (s.setMk (l ++ [v])) a)) : W2 (lstC 17 "append" [v] (mem s a)) Q := by subst e; exact w_append rfl (Nat.lt_of_le_of_lt h (by decide)) q
theorem ext_ws {us : List Nat} (ws : List Nat) (hw : WaOk s ws) (hv : listOf v (mem s a) = some (us.map nv)) (h : ws.length + us.length ≤ 100000) (q : Q .none (mem (s.setW ((ws ++ us).map nv)) a)) : W2 (lstC (waddr s.wa) "extend" [v] (mem s a)) Q := by
 refine w_extend (wa_get hw) hv (by rw [List.length_map, List.length_map]; unfold limit; exact Nat.lt_of_le_of_lt (by assumption) (by decide)) ?_
 rw [← List.map_append, wa_set]
 exact q
theorem pop_above {c : Nat} {w : V} (es : List (V × V)) (e : s.above = es) (hk : okKey es (nv c) = true) (hl : es.length < limit) (h : dget es (nv c) = some w) (q : Q w (mem (s.setAb (ddel es (nv c))) a)) : W2 (dictC 14 "pop" [nv c] (mem s a)) Q := by
 subst e; exact w_popD rfl (by rw [hk]; simp [V.atom, hl]) h q
theorem set_above {c : Nat} {w : V} {Q : Mem → Prop} (es : List (V × V)) (e : s.above = es) (hk : okKey es (nv c) = true) (hl : es.length < limit) (q : Q (mem (s.setAb (dput es (nv c) w)) a)) : WS (stI (.ref 14) (nv c) w (mem s a)) Q := by
 subst e; exact w_sitemD rfl (by rw [hk]; simp [hl]) q
theorem get_above {c : Nat} {w : V} {Q : V → Prop} (es : List (V × V)) (e : s.above = es) (hk : okKey es (nv c) = true) (h : dget es (nv c) = some w) (q : Q w) : WS (getItemV (.ref 14) (nv c) (mem s a)) Q := by
 subst e; exact w_idxD rfl hk h q
end
set_option tactic.hygienic false
/-- no list is near the limit -/
structure Lim (a : A) : Prop where
 edges : a.edges.length ≤ 2000
 forest : a.forest.length ≤ 2000
 known : a.known.length ≤ 2000
 ws : a.ws.length ≤ 2000
 ch : a.ch.length ≤ 2000
 ab : ∀ c us, a.ab c = some us → us.length ≤ 1000
 lens : ∀ i, a.len i ≤ 1000
noncomputable def edV (x y : Nat) (r : V) : V := .tup [nv x, nv y, r]
/-- the two are one already -/
noncomputable def A.same (a : A) (x y : Nat) (r : V) : A := a.setE (a.edges ++ [edV x y r])
/-- g goes under k -/
noncomputable def A.unite (a : A) (x y : Nat) (r : V) (k g : Nat) : A :=
 { a with edges := a.edges ++ [edV x y r], par := a.par.set g k, mrg := a.mrg ++ [(k, g)], len := upd a.len k (a.len k + a.len g), forest := a.forest ++ [nv a.edges.length], ws := a.ws ++ a.us g, ab := upd (upd a.ab g none) k (some (a.us k ++ a.us g)) }
section
variable {s : St} {a : A} {Q : V → Mem → Prop}
theorem AL.items {w : V} {us : List Nat} (x : AL s w us) : itemsOf w (mem s a) = some (us.map nv) := by
 rcases x with rfl | ⟨j, _, _, rfl, h⟩
 ·rfl
 ·exact lstAt_of ((tail_get ..).trans h)
theorem okKey_ab (R : Rep s a) (c : Nat) : okKey s.above (nv c) = true := by
 simp only [okKey, V.key, V.atom, Bool.true_and, List.all_eq_true]
 intro e he
 obtain ⟨c', h⟩ := R.abK e.1 (List.mem_map_of_mem he)
 rw [h]; rfl
theorem ab_lim (R : Rep s a) : s.above.length < limit := by have := R.abL; unfold limit; lia
theorem join0_same (R : Rep s a) (S : Shp a) (L : Lim a) (n : Nat) {x y : Nat} {r : V} (hx : x < a.nodes.length) (hy : y < a.nodes.length) (he : find a.par x = find a.par y)
  (q : ∀ s', Fr s s' → Rep s' (a.same x y r) → Q (.bool false) (mem s' (a.same x y r))) : W2 (callD (n + 120) "Heap" (nthM 10 9) [.ref 1, nv x, nv y, r] (mem s a)) Q := by
 conv => arg 1; arg 3; whnf
 walk_at "w"
 refine w_methL rfl ?_
 walk_at "w"
 refine w_append rfl (Nat.lt_of_le_of_lt L.edges (by decide)) ?_
 walk_at "w"
 refine w_methI rfl rfl mo_Unions_merge ?_
 walk_at "w"
 have e1 : (mem s a).set 11 (.lst (a.edges ++ [.tup [nv x, nv y, r]])) = mem s (a.same x y r) := rfl
 rw [e1]
 have S1 : Shp (a.same x y r) := ⟨S.up, S.len, S.few, S.kids⟩
 refine merge_same S1 _ hx hy he ?_
 rintro s' rfl
 walk_at "w"
 refine w_isNone ?_
 refine iP rfl ?_
 walk_at "w"
 exact q _ (Fr.push _ _) ((R.push _).free rfl rfl rfl rfl rfl rfl rfl rfl rfl rfl rfl rfl rfl rfl rfl)
theorem A.us_eq {a : A} {c : Nat} {us : List Nat} (h : a.ab c = some us) : a.us c = us := by simp [A.us, h]
theorem unite_rep (R : Rep s a) {k g jk : Nat} (hne : k ≠ g) {xs : List V} (hj : s.lots[k]? = some jk) (hxs : xs.length = a.len k + a.len g) {uk ug : List Nat} (hk : a.ab k = some uk) (hg : a.ab g = some ug) (x y : Nat) (r : V) :
  Rep (((s.setT jk (.lst xs)).setW ((a.ws ++ ug).map nv)).setAb (dput (ddel s.above (nv g)) (nv k) (.lst ((uk ++ ug).map nv)))) (a.unite x y r k g) := by
 have R1 := (R.setLot hj xs).setW (a.ws ++ ug)
 rw [hxs] at R1
 obtain ⟨wk, dk, _⟩ := R.abS k uk hk
 obtain ⟨wg, dg, _⟩ := R.abS g ug hg
 have hab : ((s.setT jk (.lst xs)).setW ((a.ws ++ ug).map nv)).above = s.above := setW_above _ _
 have hnv : ∀ c c' : Nat, (nv c).beq (nv c') = true ↔ c = c' := fun c c' => by rw [V.beq_iff]; exact ⟨nv_inj, fun h => by rw [h]⟩
 have dk' : dget (ddel s.above (nv g)) (nv k) = some wk := by
  rw [dget_ddel R.abD, if_neg (by rw [hnv]; exact fun e => hne e.symm)]; exact dk
 have l1 : (dput (ddel s.above (nv g)) (nv k) (.lst ((uk ++ ug).map nv))).length + 1 = s.above.length := by
  rw [dput_len dk', ddel_len dg]
 have R2 := R1.setAb (es := dput (ddel s.above (nv g)) (nv k) (.lst ((uk ++ ug).map nv))) (f := upd (upd a.ab g none) k (some (uk ++ ug))) (m := a.mrg ++ [(k, g)]) ?_ (dput_nodup (ddel_nodup R.abD _) _ _) ?_ ?_ (by have := R.abL; rw [List.length_append]; simp only [List.length_cons, List.length_nil]; lia)
 ·refine R2.free rfl rfl rfl rfl rfl rfl rfl rfl rfl rfl rfl ?_ ?_ rfl rfl
  ·show upd (upd a.ab g none) k (some (a.us k ++ a.us g)) = upd (upd a.ab g none) k (some (uk ++ ug))
   rw [A.us_eq hk, A.us_eq hg]
  ·show a.ws ++ a.us g = a.ws ++ ug
   rw [A.us_eq hg]
 ·intro z hz
  rcases dput_keys (ddel s.above (nv g)) (nv k) (.lst ((uk ++ ug).map nv)) with ⟨_, h⟩ | ⟨_, h⟩
  ·rw [h] at hz
   obtain ⟨e, he, rfl⟩ := List.mem_map.mp hz
   exact R.abK _ (List.mem_map_of_mem (ddel_sub _ _ e he))
  ·rw [h] at hz
   rcases List.mem_append.mp hz with hz | hz
   ·obtain ⟨e, he, rfl⟩ := List.mem_map.mp hz
    exact R.abK _ (List.mem_map_of_mem (ddel_sub _ _ e he))
   ·exact ⟨k, by simpa using hz⟩
 ·intro c hc
  rw [dget_dput, dget_ddel R.abD]
  by_cases h1 : c = k
  ·simp [upd, h1] at hc
  ·rw [if_neg (by rw [hnv]; exact fun e => h1 e.symm)]
   by_cases h2 : c = g
   ·rw [if_pos (by rw [hnv]; exact h2.symm)]
   ·rw [if_neg (by rw [hnv]; exact fun e => h2 e.symm)]
    refine R.abN c ?_
    simpa [upd, h1, h2] using hc
 ·intro c us hc
  rw [dget_dput, dget_ddel R.abD]
  by_cases h1 : c = k
  ·subst h1
   simp only [upd, if_true, Option.some.injEq] at hc
   subst hc
   refine ⟨_, by rw [if_pos (by rw [hnv])], .inr (.inl rfl)⟩
  ·rw [if_neg (by rw [hnv]; exact fun e => h1 e.symm)]
   by_cases h2 : c = g
   ·simp [upd, h1, h2] at hc
    lia
   ·rw [if_neg (by rw [hnv]; exact fun e => h2 e.symm)]
    have hc : a.ab c = some us := by simpa [upd, h1, h2] using hc
    obtain ⟨w, h3, h4⟩ := R.abS c us hc
    exact ⟨w, h3, .inl ⟨hc, by rw [hab]; exact h3⟩⟩
theorem join0_diff (R : Rep s a) (S : Shp a) (L : Lim a) (n : Nat) {x y k g : Nat} {r : V} (hx : x < a.nodes.length) (hy : y < a.nodes.length) (hk : k = min (find a.par x) (find a.par y)) (hg : g = max (find a.par x) (find a.par y)) (he : k ≠ g)
  {uk ug : List Nat} (ak : a.ab k = some uk) (ag : a.ab g = some ug) (q : ∀ s', Fr s s' → Rep s' (a.unite x y r k g) → Q (.bool true) (mem s' (a.unite x y r k g))) : W2 (callD (n + 120) "Heap" (nthM 10 9) [.ref 1, nv x, nv y, r] (mem s a)) Q := by
 conv => arg 1; arg 3; whnf
 walk_at "w"
 refine w_methL rfl ?_
 walk_at "w"
 refine w_append rfl (Nat.lt_of_le_of_lt L.edges (by decide)) ?_
 walk_at "w"
 refine w_methI rfl rfl mo_Unions_merge ?_
 walk_at "w"
 have e1 : (mem s a).set 11 (.lst (a.edges ++ [.tup [nv x, nv y, r]])) = mem s (a.same x y r) := rfl
 rw [e1]
 have S1 : Shp (a.same x y r) := ⟨S.up, S.len, S.few, S.kids⟩
 have R1 : Rep s (a.same x y r) := R.free rfl rfl rfl rfl rfl rfl rfl rfl rfl rfl rfl rfl rfl rfl rfl
 have hm : a.mrg.length ≤ 1000 := by have := R.abL; exact Nat.le_trans (Nat.le_trans (Nat.le_add_left _ _) (by assumption)) (by decide)
 refine merge_diff R1 S1 _ hx hy hk hg he L.lens hm ?_
 intro s' jk xs ejk hxs hs'
 have R2 : Rep (s.push (.lst [nv (find a.par x), nv (find a.par y)])) a := R.push _
 have R3 := unite_rep R2 he (xs := xs) (jk := jk) ejk hxs ak ag x y r
 have ejk2 : (s.push (.lst [nv (find a.par x), nv (find a.par y)])).lots[k]? = some jk := ejk
 have R4 : Rep s' (a.setL (upd a.len k xs.length)) := by rw [hs']; exact R2.setLot ejk2 xs
 have ha : s'.above = s.above := by rw [hs']; rfl
 obtain ⟨wk, dk, alk⟩ := R4.abS k uk ak
 obtain ⟨wg, dg, alg⟩ := R4.abS g ug ag
 have F1 : Fr s s' := by rw [hs']; exact (Fr.push _ _).trans (Fr.setLot ejk2 _)
 walk_at "w"
 refine w_isTup ?_
 refine iM nofun ?_
 walk_at "w"
 refine w_methL rfl ?_
 walk_at "w"
 refine w_bltn rfl (w_len (xs := a.edges ++ [edV x y r]) rfl (by have := L.edges; rw [List.length_append]; simp only [List.length_cons, List.length_nil]; unfold limit; lia) ?_)
 walk_at "w"
 rw [show (((a.edges ++ [edV x y r]).length : Nat) : Int) - 1 = ((a.edges.length : Nat) : Int) by simp]
 refine app_forest a.forest rfl L.forest ?_
 walk_at "w"
 refine w_methL (xs := a.ws.map nv) (wa_get R4.wa) ?_
 walk_at "w"
 refine get_above s'.above rfl (okKey_ab R4 g) dg ?_
 walk_at "w"
 have lg := L.ab g ug ag
 have lk := L.ab k uk ak
 have lw := L.ws
 refine ext_ws (us := ug) a.ws R4.wa alg.listOf (by lia) ?_
 have habW : (s'.setW ((a.ws ++ ug).map nv)).above = s'.above := setW_above _ _
 have okD : okKey (ddel s'.above (nv g)) (nv k) = true := by
  have := okKey_ab R4 k
  simp only [okKey, Bool.and_eq_true, List.all_eq_true] at this ⊢
  exact ⟨this.1, fun e he => this.2 e (ddel_sub _ _ e he)⟩
 have llD : (ddel s'.above (nv g)).length < limit := by have := ddel_len dg; have := ab_lim R4; lia
 have F2 : Fr s' ((s'.setW ((a.ws ++ ug).map nv)).setAb (ddel s'.above (nv g))) := (Fr.setW _ _).trans (Fr.plain rfl rfl rfl rfl rfl rfl rfl)
 have alk2 : AL ((s'.setW ((a.ws ++ ug).map nv)).setAb (ddel s'.above (nv g))) wk uk := alk.fr F2 R4.bnd fun j e => R4.waB e
 have alg2 : AL ((s'.setW ((a.ws ++ ug).map nv)).setAb (ddel s'.above (nv g))) wg ug := alg.fr F2 R4.bnd fun j e => R4.waB e
 have hs2 : s' = (s.push (.lst [nv (find a.par x), nv (find a.par y)])).setT jk (.lst xs) := hs'
 rw [← hs2] at R3
 walk_at "w"
 refine get_above s'.above habW (okKey_ab R4 k) dk ?_
 walk_at "w"
 refine w_methD rfl ?_
 walk_at "w"
 refine pop_above s'.above habW (okKey_ab R4 g) (ab_lim R4) dg ?_
 refine w_addL (x := uk.map nv) (y := ug.map nv) alk2.listOf alg2.listOf (by rw [List.length_map, List.length_map]; unfold limit; lia) ?_
 walk_at "w"
 refine set_above (ddel s'.above (nv g)) rfl okD llD ?_
 walk_at "w"
 rw [← List.map_append]
 have F3 : Fr s (((s'.setW ((a.ws ++ ug).map nv)).setAb (ddel s'.above (nv g))).setAb (dput (ddel s'.above (nv g)) (nv k) (.lst ((uk ++ ug).map nv)))) := (F1.trans F2).trans (Fr.plain rfl rfl rfl rfl rfl rfl rfl)
 have R5 : Rep ((s'.setW ((a.ws ++ ug).map nv)).setAb (dput (ddel s'.above (nv g)) (nv k) (.lst ((uk ++ ug).map nv)))) (a.unite x y r k g) := by rw [ha]; exact R3
 exact q _ F3 R5
end
set_option tactic.hygienic true
set_option tactic.hygienic false
noncomputable def A.joinK (a : A) (x y : Nat) (r : V) (k g : Nat) : A :=
 if k = g then (a.setCh (a.ch ++ [.edge k (a.us k).length g (a.us g)])).same x y r else (a.setCh (a.ch ++ [.edge k (a.us k).length g (a.us g)])).unite x y r k g
noncomputable def A.join (a : A) (x y : Nat) (r : V) : A := a.joinK x y r (min (find a.par x) (find a.par y)) (max (find a.par x) (find a.par y))
noncomputable def likeV : V := .tup [.str "like"]
noncomputable def A.pre (a : A) (n : Nat) : A := if n = a.made then (a.setCh (a.ch ++ [.made n])).setMade (n + 1) else a
noncomputable def A.look0 (a : A) (n : Nat) (sg : Nd) : A := match a.known.lookup sg with
 | none => (a.setCh (a.ch ++ [.known sg])).setK (a.known ++ [(sg, n)])
 | some o => if find a.par o = find a.par n then a else a.join o n likeV
noncomputable def A.look (a : A) (n : Nat) (d : Nd) : A := (a.pre n).look0 n (sigOf a.par d)
/-- what a walk asks of a heap -/
structure Ok (a : A) : Prop extends Shp a, Lim a where
 abR : ∀ c, a.par[c]? = some c → ∃ us, a.ab c = some us
 kn : ∀ sg o, a.known.lookup sg = some o → o < a.nodes.length
section
variable {s : St} {a : A} {Q : V → Mem → Prop}
theorem Rep.addCh (R : Rep s a) {v : V} {c : Ch} (h : ChR s v c) : Rep (s.setCh (s.changes ++ [v])) (a.setCh (a.ch ++ [c])) := R.setCh (R.ch.snoc h)
theorem Fr.setCh (s : St) (cs : List V) : Fr s (s.setCh cs) := Fr.plain rfl rfl rfl rfl rfl rfl rfl
theorem hjoin (R : Rep s a) (O : Ok a) (n : Nat) {x y : Nat} {r : V} (hx : x < a.nodes.length) (hy : y < a.nodes.length) (hc : a.ch.length + 1 ≤ 2000)
  (q : ∀ v s', Fr s s' → Rep s' (a.join x y r) → Q v (mem s' (a.join x y r))) : W2 (callD (n + 150) "Levels" (nthM 12 5) [.ref 1, nv x, nv y, r] (mem s a)) Q := by
 have S := O.toShp
 have L := O.toLim
 have bx := findB S hx
 have bY := findB S hy
 obtain ⟨uk, ak⟩ : ∃ us, a.ab (min (find a.par x) (find a.par y)) = some us := by
  rcases Nat.le_total (find a.par x) (find a.par y) with h | h
  ·rw [Nat.min_eq_left h]; exact O.abR _ bx
  ·rw [Nat.min_eq_right h]; exact O.abR _ bY
 obtain ⟨ug, ag⟩ : ∃ us, a.ab (max (find a.par x) (find a.par y)) = some us := by
  rcases Nat.le_total (find a.par x) (find a.par y) with h | h
  ·rw [Nat.max_eq_right h]; exact O.abR _ bY
  ·rw [Nat.max_eq_left h]; exact O.abR _ bx
 have hk : ∃ k, k = min (find a.par x) (find a.par y) := ⟨_, rfl⟩
 have hg : ∃ g, g = max (find a.par x) (find a.par y) := ⟨_, rfl⟩
 obtain ⟨k, hk⟩ := hk
 obtain ⟨g, hg⟩ := hg
 have hj : a.join x y r = a.joinK x y r k g := by rw [A.join, ← hk, ← hg]
 rw [← hk] at ak
 rw [← hg] at ag
 have R1 := R.push (.lst [nv (find a.par x), nv (find a.par y)])
 have F1 := Fr.push s (.lst [nv (find a.par x), nv (find a.par y)])
 conv => arg 1; arg 3; whnf
 walk_at "w"
 refine w_methI rfl rfl mo_Levels_find ?_
 walk_at "w"
 refine hfind S _ _ hx ?_
 walk_at "w"
 refine w_methI rfl rfl mo_Levels_find ?_
 walk_at "w"
 refine hfind S _ _ hy ?_
 walk_at "w"
 refine w_bltn rfl (sort_step ?_)
 rw [← hk, ← hg]
 refine (?_ : ∀ s1, s1 = s.push (.lst [nv (find a.par x), nv (find a.par y)]) → _) _ rfl
 intro s1 hs1
 rw [← hs1] at R1 F1 ⊢
 obtain ⟨wk, dk, alk⟩ := R1.abS k uk ak
 obtain ⟨wg, dg, alg⟩ := R1.abS g ug ag
 have lk := L.ab k uk ak
 walk_at "w"
 refine w_methL rfl ?_
 walk_at "w"
 refine get_above s1.above rfl (okKey_ab R1 k) dk ?_
 walk_at "w"
 refine w_bltn rfl (w_len alk.items (by rw [List.length_map]; unfold limit; exact Nat.lt_of_le_of_lt (by assumption) (by decide)) ?_)
 rw [List.length_map]
 walk_at "w"
 refine get_above s1.above rfl (okKey_ab R1 g) dg ?_
 walk_at "w"
 have hl := R1.ch.length
 refine app_changes s1.changes rfl (by rw [hl]; solve_by_elim (maxDepth := 4) only [*, Nat.le_of_lt, Nat.lt_of_lt_of_le, Nat.lt_of_le_of_lt, Nat.lt_trans, Nat.le_trans, Nat.ne_of_lt, Nat.ne_of_gt]) ?_
 have R2 : Rep (s1.setCh (s1.changes ++ [.tup [.str "edge", nv k, nv uk.length, nv g, wg]])) (a.setCh (a.ch ++ [.edge k uk.length g ug])) := R1.addCh (.edge k uk.length g alg)
 have F2 := F1.trans (Fr.setCh s1 (s1.changes ++ [.tup [.str "edge", nv k, nv uk.length, nv g, wg]]))
 have L2 : Lim (a.setCh (a.ch ++ [.edge k uk.length g ug])) := ⟨L.edges, L.forest, L.known, L.ws, by show (a.ch ++ _).length ≤ _; rw [List.length_append]; exact hc, L.ab, L.lens⟩
 have S2 : Shp (a.setCh (a.ch ++ [.edge k uk.length g ug])) := ⟨S.up, S.len, S.few, S.kids⟩
 have uk' : a.us k = uk := A.us_eq ak
 have ug' : a.us g = ug := A.us_eq ag
 walk_at "w"
 refine w_bsupR rfl (w_sup rfl rfl sup_join ?_)
 walk_at "w"
 by_cases he : k = g
 ·have hf : find a.par x = find a.par y := by lia
  refine join0_same R2 S2 L2 _ hx hy hf ?_
  intro s' F3 R3
  walk_at "w"
  have ej : a.join x y r = (a.setCh (a.ch ++ [.edge k uk.length g ug])).same x y r := by rw [hj, A.joinK, if_pos he, uk', ug']
  exact ej ▸ q _ s' (F2.trans F3) (by rw [ej]; exact R3)
 ·refine join0_diff R2 S2 L2 _ hx hy hk hg he ak ag ?_
  intro s' F3 R3
  walk_at "w"
  have ej : a.join x y r = (a.setCh (a.ch ++ [.edge k uk.length g ug])).unite x y r k g := by rw [hj, A.joinK, if_neg he, uk', ug']
  exact ej ▸ q _ s' (F2.trans F3) (by rw [ej]; exact R3)
end
set_option tactic.hygienic true
set_option tactic.hygienic false
section
variable {s : St} {a : A} {Q : V → Mem → Prop}
theorem set_known {Q : V → Mem → Prop} (d : Nd) (n : Nat) (hl : a.known.length ≤ 2000) (h : a.known.lookup d = none) (q : Q (nv n) (mem s (a.setK (a.known ++ [(d, n)])))) : W2 (dictC 13 "setdefault" [ndV d, nv n] (mem s a)) Q := by
 refine w_setdef (es := a.known.map knV) rfl (by rw [okKey_known]; simp only [Bool.true_and, List.length_map, decide_eq_true_eq]; unfold limit; exact Nat.lt_of_le_of_lt (by assumption) (by decide)) ?_
 have e : dget (a.known.map knV) (ndV d) = none := by rw [dget_known, h]; rfl
 rw [e, dput_new _ e]
 have e2 : (mem s a).set 13 (.dict (a.known.map knV ++ [(ndV d, nv n)])) = mem s (a.setK (a.known ++ [(d, n)])) := by
  rw [show a.known.map knV ++ [(ndV d, nv n)] = (a.known ++ [(d, n)]).map knV by simp [knV]]; rfl
 rw [e2]; exact q
theorem get_known {Q : V → Mem → Prop} (d : Nd) (n o : Nat) (hl : a.known.length ≤ 2000) (h : a.known.lookup d = some o) (q : Q (nv o) (mem s a)) : W2 (dictC 13 "setdefault" [ndV d, nv n] (mem s a)) Q := by
 refine w_setdef (es := a.known.map knV) rfl (by rw [okKey_known]; simp only [Bool.true_and, List.length_map, decide_eq_true_eq]; unfold limit; exact Nat.lt_of_le_of_lt (by assumption) (by decide)) ?_
 have e : dget (a.known.map knV) (ndV d) = some (nv o) := by rw [dget_known, h]; rfl
 rw [e]; exact q
theorem in_known {P : Bool → Prop} (d : Nd) (q : P (!(a.known.lookup d).isSome)) : WS (cmp .NotIn (ndV d) (.ref 13) (mem s a)) P := by
 refine w_notIn (isIn_D (es := a.known.map knV) rfl (okKey_known _ _)) ?_
 rw [dget_known, Option.isSome_map]; exact q
/-- Heap.look_at, the number's sign being new -/
theorem look_new (S : Shp a) (L : Lim a) (n : Nat) {x : Nat} {d : Nd} (hx : a.nodes[x]? = some d) (hk : a.known.lookup (sigOf a.par d) = none)
  (q : ∀ v, Q v (mem s (a.setK (a.known ++ [(sigOf a.par d, x)])))) : W2 (callD (n + 180) "Heap" (nthM 10 5) [.ref 1, nv x] (mem s a)) Q := by
 have hxN : x < a.nodes.length := (List.getElem?_eq_some_iff.mp hx).1
 have S1 : Shp (a.setK (a.known ++ [(sigOf a.par d, x)])) := ⟨S.up, S.len, S.few, S.kids⟩
 conv => arg 1; arg 3; whnf
 walk_at "w"
 refine w_methD rfl ?_
 walk_at "w"
 refine w_methI rfl rfl mo_Levels_node ?_
 walk_at "w"
 refine hnode S _ _ hx ?_
 walk_at "w"
 refine set_known _ _ L.known hk ?_
 walk_at "w"
 refine w_methI rfl rfl mo_Levels_find ?_
 walk_at "w"
 refine hfind S1 _ _ hxN ?_
 walk_at "w"
 refine w_methI rfl rfl mo_Levels_find ?_
 walk_at "w"
 refine hfind S1 _ _ hxN ?_
 walk_at "w"
 refine iJ rfl ?_
 walk_at "w"
 exact q _
theorem look_old (R : Rep s a) (O : Ok a) (n : Nat) {x o : Nat} {d : Nd} (hx : a.nodes[x]? = some d) (hk : a.known.lookup (sigOf a.par d) = some o) (hc : a.ch.length + 1 ≤ 2000)
  (q : ∀ v s', Fr s s' → Rep s' (if find a.par o = find a.par x then a else a.join o x likeV) → Q v (mem s' (if find a.par o = find a.par x then a else a.join o x likeV))) : W2 (callD (n + 180) "Heap" (nthM 10 5) [.ref 1, nv x] (mem s a)) Q := by
 have S := O.toShp
 have L := O.toLim
 have hxN : x < a.nodes.length := (List.getElem?_eq_some_iff.mp hx).1
 have hoN : o < a.nodes.length := O.kn _ _ hk
 conv => arg 1; arg 3; whnf
 walk_at "w"
 refine w_methD rfl ?_
 walk_at "w"
 refine w_methI rfl rfl mo_Levels_node ?_
 walk_at "w"
 refine hnode S _ _ hx ?_
 walk_at "w"
 refine get_known _ _ _ L.known hk ?_
 walk_at "w"
 refine w_methI rfl rfl mo_Levels_find ?_
 walk_at "w"
 refine hfind S _ _ hoN ?_
 walk_at "w"
 refine w_methI rfl rfl mo_Levels_find ?_
 walk_at "w"
 refine hfind S _ _ hxN ?_
 walk_at "w"
 by_cases he : find a.par o = find a.par x
 ·have : ((find a.par o : Nat) : Int) = find a.par x := by exact_mod_cast he
  refine iJ this ?_
  walk_at "w"
  have := q .none s (Fr.refl s)
  rw [if_pos he] at this
  exact this R
 ·have : ¬ (((find a.par o : Nat) : Int) = find a.par x) := by exact_mod_cast he
  refine iK this ?_
  walk_at "w"
  refine w_methI rfl rfl mo_Levels_join ?_
  walk_at "w"
  refine hjoin R O _ hoN hxN hc ?_
  intro v s' F R'
  walk_at "w"
  have := q .none s' F
  rw [if_neg he] at this
  exact this R'
theorem hlook (R : Rep s a) (O : Ok a) (n : Nat) {x : Nat} {d : Nd} (hx : a.nodes[x]? = some d) (hc : a.ch.length + 2 ≤ 2000)
  (q : ∀ v s', Fr s s' → Rep s' (a.look x d) → Q v (mem s' (a.look x d))) : W2 (callD (n + 220) "Levels" (nthM 12 4) [.ref 1, nv x] (mem s a)) Q := by
 have S := O.toShp
 have L := O.toLim
 have hxN : x < a.nodes.length := (List.getElem?_eq_some_iff.mp hx).1
 have hlc := R.ch.length
 conv => arg 1; arg 3; whnf
 walk_at "e"
 walk_at "e"
 refine ex_mono (Q := fun fl ρ' μ' => fl = Fl.next ∧ ρ' = put (put ([] : Loc) ("self" : Str) (.ref 1)) ("n" : Str) (nv x) ∧ ∃ s', μ' = mem s' (a.pre x) ∧ Fr s s' ∧ Rep s' (a.pre x)) ?_ ?_
 ·walk_at "w"
  by_cases hm : x = a.made
  ·have e1 : ((x : Nat) : Int) = a.made := by exact_mod_cast hm
   refine iD e1 ?_
   walk_at "w"
   refine w_methL rfl ?_
   walk_at "w"
   refine app_changes s.changes rfl (by lia) ?_
   walk_at "w"
   refine ⟨rfl, rfl, s.setCh (s.changes ++ [.tup [.str "made", nv x]]), ?_, Fr.setCh _ _, ?_⟩
   ·rw [A.pre, if_pos hm]; rfl
   ·rw [A.pre, if_pos hm]
    exact (R.addCh (.made x)).free rfl rfl rfl rfl rfl rfl rfl rfl rfl rfl rfl rfl rfl rfl rfl
  ·have e1 : ¬ ((x : Nat) : Int) = a.made := by exact_mod_cast hm
   refine iN e1 ?_
   walk_at "w"
   exact ⟨rfl, rfl, s, by rw [A.pre, if_neg hm], Fr.refl s, by rw [A.pre, if_neg hm]; exact R⟩
 ·rintro _ _ _ ⟨rfl, rfl, s1, rfl, F1, R1⟩
  have hp : (a.pre x).nodes = a.nodes ∧ (a.pre x).par = a.par ∧ (a.pre x).known = a.known ∧ (a.pre x).ch.length ≤ a.ch.length + 1 := by
   unfold A.pre
   split
   ·exact ⟨rfl, rfl, rfl, by show (a.ch ++ _).length ≤ _; simp⟩
   ·exact ⟨rfl, rfl, rfl, by exact Nat.le_add_right _ _⟩
  have O1 : Ok (a.pre x) := by
   unfold A.pre
   split
   ·exact ⟨⟨O.up, O.len, O.few, O.kids⟩, ⟨O.edges, O.forest, O.known, O.ws, by show (a.ch ++ _).length ≤ _; rw [List.length_append]; simp only [List.length_cons, List.length_nil]; solve_by_elim (maxDepth := 4) only [*, Nat.le_of_lt, Nat.lt_of_lt_of_le, Nat.lt_of_le_of_lt, Nat.lt_trans, Nat.le_trans, Nat.ne_of_lt, Nat.ne_of_gt], O.ab, O.lens⟩, O.abR, O.kn⟩
   ·exact O
  have hx1 : (a.pre x).nodes[x]? = some d := by rw [hp.1]; exact hx
  have hq : a.look x d = (a.pre x).look0 x (sigOf (a.pre x).par d) := by rw [A.look, hp.2.1]
  have hlc1 := R1.ch.length
  rw [hq] at q
  clear hq
  generalize a.pre x = b at *
  cases hk : b.known.lookup (sigOf b.par d) with
  | none =>
   walk_at "w"
   refine w_methI rfl rfl mo_Levels_node ?_
   walk_at "w"
   refine hnode O1.toShp _ _ hx1 ?_
   walk_at "w"
   refine in_known _ ?_
   rw [hk]
   refine iP rfl ?_
   walk_at "w"
   refine w_methL rfl ?_
   walk_at "w"
   refine app_changes s1.changes rfl (by lia) ?_
   walk_at "w"
   refine w_bsupE rfl (w_sup rfl rfl sup_look ?_)
   walk_at "w"
   have R2 : Rep (s1.setCh (s1.changes ++ [.tup [.str "known", ndV (sigOf b.par d)]])) (b.setCh (b.ch ++ [.known (sigOf b.par d)])) := R1.addCh (.known _)
   have L2 : Lim (b.setCh (b.ch ++ [.known (sigOf b.par d)])) := ⟨O1.edges, O1.forest, O1.known, O1.ws, by show (b.ch ++ _).length ≤ _; rw [List.length_append]; simp only [List.length_cons, List.length_nil]; lia, O1.ab, O1.lens⟩
   have S2 : Shp (b.setCh (b.ch ++ [.known (sigOf b.par d)])) := ⟨O1.up, O1.len, O1.few, O1.kids⟩
   refine look_new S2 L2 _ hx1 hk ?_
   intro v
   walk_at "w"
   have hl : b.look0 x (sigOf b.par d) = (b.setCh (b.ch ++ [.known (sigOf b.par d)])).setK (b.known ++ [(sigOf b.par d, x)]) := by rw [A.look0, hk]
   rw [hl] at q
   exact q _ _ (F1.trans (Fr.setCh _ _)) (R2.free rfl rfl rfl rfl rfl rfl rfl rfl rfl rfl rfl rfl rfl rfl rfl)
  | some o =>
   walk_at "w"
   refine w_methI rfl rfl mo_Levels_node ?_
   walk_at "w"
   refine hnode O1.toShp _ _ hx1 ?_
   walk_at "w"
   refine in_known _ ?_
   rw [hk]
   refine iM nofun ?_
   walk_at "w"
   refine w_bsupE rfl (w_sup rfl rfl sup_look ?_)
   walk_at "w"
   refine look_old R1 O1 _ hx1 hk (by lia) ?_
   intro v s2 F2 R2
   walk_at "w"
   have hl : b.look0 x (sigOf b.par d) = if find b.par o = find b.par x then b else b.join o x likeV := by rw [A.look0, hk]
   rw [hl] at q
   exact q _ _ (F1.trans F2) R2
end
set_option tactic.hygienic true
set_option tactic.hygienic false
noncomputable def A.step (a : A) (n : Nat) (d : Nd) : A := (a.setWs a.ws.dropLast).look n d
noncomputable def A.push (a : A) (lo : Nat) : A := a.setMk (a.mks ++ [(a.ch.length, a.ws, lo)])
section
variable {s : St} {a : A} {Q : V → Mem → Prop}
theorem pop_ws (ws : List Nat) (x : Nat) (hw : WaOk s ws) (hl : ws.length ≤ 10000) (h : ws.getLast? = some x) (q : Q (nv x) (mem (s.setW (ws.dropLast.map nv)) a)) : W2 (lstC (waddr s.wa) "pop" [] (mem s a)) Q := by
 refine w_popL (v := nv x) (wa_get hw) (by rw [List.length_map]; unfold limit; exact Nat.lt_of_le_of_lt (by assumption) (by decide)) (by rw [List.getLast?_map, h]; rfl) ?_
 rw [← List.map_dropLast, wa_set]
 exact q
theorem len_ws (ws : List Nat) (hw : WaOk s ws) (hl : ws.length ≤ 10000) (q : Q (nv ws.length) (mem s a)) : W2 (bltn "len" [.ref (waddr s.wa)] (mem s a)) Q := by
 refine w_len (xs := ws.map nv) (lstAt_of (wa_get hw)) (by rw [List.length_map]; unfold limit; exact Nat.lt_of_le_of_lt (by assumption) (by decide)) ?_
 rw [List.length_map]; exact q
theorem hsettle (J : A → Prop) (m : A → Nat) (hJ : ∀ a, J a → Ok a ∧ a.ch.length + 2 ≤ 2000 ∧ ∀ n ∈ a.ws, n < a.nodes.length)
  (hstep : ∀ a x d, J a → a.ws.getLast? = some x → a.nodes[x]? = some d → J (a.step x d) ∧ m (a.step x d) < m a)
  (R : Rep s a) (h : J a) (hm : m a ≤ 60) (n : Nat) (q : ∀ v s' a', Fr s s' → Rep s' a' → J a' → a'.ws = [] → Q v (mem s' a')) : W2 (callD (n + 320) "Heap" (nthM 10 10) [.ref 1] (mem s a)) Q := by
 conv => arg 1; arg 3; whnf
 walk_at "w"
 refine w_whl (I := fun j ρ μ' => ∃ s' a', ρ = put ([] : Loc) ("self" : Str) (.ref 1) ∧ μ' = mem s' a' ∧ Fr s s' ∧ Rep s' a' ∧ J a' ∧ m a' ≤ j) ?_ (m a) _ _ ⟨s, a, rfl, rfl, Fr.refl s, R, h, Nat.le_refl _⟩
 rintro j ρ μ' ⟨s1, a1, rfl, rfl, F1, R1, J1, hj⟩
 obtain ⟨O1, hc, hw⟩ := hJ a1 J1
 walk_at "w"
 refine w_bltn rfl (len_ws a1.ws R1.wa (Nat.le_trans O1.ws (by decide)) ?_)
 walk_at "w"
 cases hx : a1.ws.getLast? with
 | none =>
  have hn : a1.ws = [] := by simpa using hx
  simp only [hn, List.length_nil, Int.ofNat_zero, Int.natCast_zero, Int.lt_irrefl, decide_false, Bool.false_eq_true, if_false]
  walk_at "w"
  exact q _ s1 a1 F1 R1 J1 hn
 | some x =>
  have hne : a1.ws ≠ [] := by intro e; rw [e] at hx; cases hx
  have hpos : 0 < a1.ws.length := List.length_pos_iff.mpr hne
  have : (0 : Int) < (a1.ws.length : Int) := by exact_mod_cast hpos
  refine iD this ?_
  have hxN : x < a1.nodes.length := hw x (List.mem_of_getLast? hx)
  obtain ⟨d, hd⟩ : ∃ d, a1.nodes[x]? = some d := ⟨_, List.getElem?_eq_getElem hxN⟩
  obtain ⟨J2, m2⟩ := hstep a1 x d J1 hx hd
  walk_at "w"
  refine w_methI rfl rfl mo_Levels_look_at ?_
  walk_at "w"
  refine w_methL (wa_get R1.wa) ?_
  walk_at "w"
  refine pop_ws a1.ws x R1.wa (Nat.le_trans O1.ws (by decide)) hx ?_
  walk_at "w"
  have R2 : Rep (s1.setW (a1.ws.dropLast.map nv)) (a1.setWs a1.ws.dropLast) := R1.setW _
  have O2 : Ok (a1.setWs a1.ws.dropLast) := ⟨⟨O1.up, O1.len, O1.few, O1.kids⟩, ⟨O1.edges, O1.forest, O1.known, by show a1.ws.dropLast.length ≤ _; have := O1.ws; rw [List.length_dropLast]; solve_by_elim (maxDepth := 4) only [*, Nat.add_le_add, Nat.mul_le_mul, Nat.le_refl, Nat.succ_le_succ, Nat.le_trans, Nat.le_of_lt, Nat.pos_of_ne_zero, Nat.sub_le, Nat.le_sub_of_add_le], O1.ch, O1.ab, O1.lens⟩, O1.abR, O1.kn⟩
  refine hlook R2 O2 _ (d := d) hd hc ?_
  intro v s3 F3 R3
  walk_at "w"
  exact .inl ⟨m (a1.step x d), by solve_by_elim (maxDepth := 4) only [*, Nat.le_of_lt, Nat.lt_of_lt_of_le, Nat.lt_of_le_of_lt, Nat.lt_trans, Nat.le_trans, Nat.ne_of_lt, Nat.ne_of_gt], rfl, s3, a1.step x d, rfl, rfl, (F1.trans (Fr.setW _ _)).trans F3, R3, J2, Nat.le_refl _⟩
theorem Rep.len_wa (R : Rep s a) {j : Nat} (e : s.wa = some j) : j < s.tail.length := by
 have := R.wa
 unfold WaOk at this
 rw [e] at this
 exact (List.getElem?_eq_some_iff.mp this.2).1
theorem hpush (R : Rep s a) (O : Ok a) (n : Nat) (hm : a.mks = []) (q : ∀ v s', Fr s s' → Rep s' (a.push s.tail.length) → Q v (mem s' (a.push s.tail.length))) : W2 (callD (n + 30) "Levels" (nthM 12 2) [.ref 1] (mem s a)) Q := by
 have hc := R.ch.length
 have hml := R.mrk.length
 have lc := O.ch
 conv => arg 1; arg 3; whnf
 walk_at "w"
 refine w_methL rfl ?_
 walk_at "w"
 refine w_bltn rfl (w_len (xs := s.changes) rfl (by unfold limit; lia) ?_)
 walk_at "w"
 refine w_bltn rfl (w_listL (xs := a.ws.map nv) (listOf_ref (wa_get R.wa)) (by rw [List.length_map]; have := O.ws; unfold limit; exact Nat.lt_of_le_of_lt (by assumption) (by decide)) ?_)
 rw [mem_push, mem_len]
 walk_at "w"
 refine app_marks s.marks rfl (by rw [hml, hm]; decide) ?_
 walk_at "w"
 have R1 := R.push (.lst (a.ws.map nv))
 refine q _ _ ((Fr.push _ _).trans (Fr.plain rfl rfl rfl rfl rfl rfl rfl)) ?_
 have hmk : All2 (MkR ((s.push (.lst (a.ws.map nv))).setMk (s.marks ++ [.tup [nv s.changes.length, .ref (s.tail.length + 20)]]))) (s.marks ++ [.tup [nv s.changes.length, .ref (s.tail.length + 20)]]) (a.mks ++ [(a.ch.length, a.ws, s.tail.length)]) := by
  refine All2.snoc ?_ (R1.mrk.imp fun v m x => ?_)
  ·refine ⟨s.tail.length, by rw [hc], R.bnd, ?_, ?_, Nat.le_refl _⟩
   ·intro e; have := R.len_wa e; exact absurd (by assumption) (Nat.lt_irrefl _)
   ·show (s.tail ++ [_])[s.tail.length]? = _
    simp
  ·obtain ⟨j, h1, h2, h3, h4⟩ := x
   exact ⟨j, h1, h2, h3, h4⟩
 obtain ⟨q1, q2, q3, q4, q5, q6, q7, q8, q9, q10, q11, q12, q13⟩ := R1
 exact ⟨q1, q2, q3, q4, q5, q6, q7, q8, q9, q10, q11, q12.imp fun v c x => x.fr (Fr.plain (s := s.push (.lst (a.ws.map nv))) (s' := (s.push (.lst (a.ws.map nv))).setMk (s.marks ++ [.tup [nv s.changes.length, .ref (s.tail.length + 20)]])) rfl rfl rfl rfl rfl rfl rfl) q5 (fun j e => R.waB e), hmk⟩
theorem hmerge (R : Rep s a) (O : Ok a) (n : Nat) {x y : Nat} {r : V} (hx : x < a.nodes.length) (hy : y < a.nodes.length) (hc : a.ch.length + 1 ≤ 2000)
  (q : ∀ v s', Fr s s' → Rep s' (a.join x y r) → Q v (mem s' (a.join x y r))) : W2 (callD (n + 170) "Heap" (nthM 10 8) [.ref 1, nv x, nv y, r] (mem s a)) Q := by
 conv => arg 1; arg 3; whnf
 walk_at "w"
 refine w_methI rfl rfl mo_Levels_join ?_
 walk_at "w"
 refine hjoin R O _ hx hy hc ?_
 intro v s' F R'
 walk_at "w"
 exact q _ s' F R'
end
set_option tactic.hygienic true
set_option tactic.hygienic false
section
variable {s : St} {a : A} {Q : V → Mem → Prop}
theorem pop_merged (M : List (Nat × Nat)) (k g : Nat) (e : a.mrg = M ++ [(k, g)]) (hl : M.length ≤ 1000) (q : Q (.tup [nv k, nv g]) (mem s (a.setM M))) : W2 (lstC 10 "pop" [] (mem s a)) Q := by
 refine w_popL (xs := a.mrg.map prV) (v := prV (k, g)) rfl (by rw [List.length_map, e]; simp; unfold limit; lia) (by rw [e]; simp) ?_
 have : (mem s a).set 10 (.lst (a.mrg.map prV).dropLast) = mem s (a.setM M) := by rw [e]; simp; rfl
 rw [this]; exact q
theorem pop_edges (E : List V) (v : V) (e : a.edges = E ++ [v]) (hl : E.length ≤ 10000) (q : Q v (mem s (a.setE E))) : W2 (lstC 11 "pop" [] (mem s a)) Q := by
 refine w_popL (xs := a.edges) (v := v) rfl (by rw [e]; simp; unfold limit; lia) (by rw [e]; simp) ?_
 have : (mem s a).set 11 (.lst a.edges.dropLast) = mem s (a.setE E) := by rw [e]; simp; rfl
 rw [this]; exact q
theorem pop_forest (E : List V) (v : V) (e : a.forest = E ++ [v]) (hl : E.length ≤ 10000) (q : Q v (mem s (a.setF E))) : W2 (lstC 12 "pop" [] (mem s a)) Q := by
 refine w_popL (xs := a.forest) (v := v) rfl (by rw [e]; simp; unfold limit; lia) (by rw [e]; simp) ?_
 have : (mem s a).set 12 (.lst a.forest.dropLast) = mem s (a.setF E) := by rw [e]; simp; rfl
 rw [this]; exact q
theorem pop_changes (E : List V) (v : V) (e : s.changes = E ++ [v]) (hl : E.length ≤ 10000) (q : Q v (mem (s.setCh E) a)) : W2 (lstC 16 "pop" [] (mem s a)) Q := by
 refine w_popL (xs := s.changes) (v := v) rfl (by rw [e]; simp; unfold limit; lia) (by rw [e]; simp) ?_
 have : (mem s a).set 16 (.lst s.changes.dropLast) = mem (s.setCh E) a := by rw [e]; simp; rfl
 rw [this]; exact q
theorem pop_marks (E : List V) (v : V) (e : s.marks = E ++ [v]) (hl : E.length ≤ 10000) (q : Q v (mem (s.setMk E) a)) : W2 (lstC 17 "pop" [] (mem s a)) Q := by
 refine w_popL (xs := s.marks) (v := v) rfl (by rw [e]; simp; unfold limit; lia) (by rw [e]; simp) ?_
 have : (mem s a).set 17 (.lst s.marks.dropLast) = mem (s.setMk E) a := by rw [e]; simp; rfl
 rw [this]; exact q
theorem uback (n : Nat) (M : List (Nat × Nat)) {k g jk jg : Nat} {xs ys : List V} (e : a.mrg = M ++ [(k, g)]) (hM : M.length ≤ 1000) (hp : a.par.length ≤ 8) (hg : g < a.par.length) (hl8 : s.lots.length ≤ 8) (ek : s.lots[k]? = some jk) (eg : s.lots[g]? = some jg)
  (hx : s.tail[jk]? = some (.lst xs)) (hy : s.tail[jg]? = some (.lst ys)) (hle : ys.length ≤ xs.length) (hlx : xs.length ≤ 10000)
  (q : Q .none (mem (s.setT jk (.lst (xs.take (xs.length - ys.length)))) ((a.setM M).setP (a.par.set g g)))) : W2 (callD (n + 60) "Unions" (nthM 8 8) [.ref 7, nv M.length] (mem s a)) Q := by
 conv => arg 1; arg 3; whnf
 walk_at "w"
 have hl : a.mrg.length = M.length + 1 := by rw [e]; simp
 refine w_whl (j := 1) (I := fun j ρ μ' => (j = 1 ∧ ρ = put (put ([] : Loc) ("self" : Str) (.ref 7)) ("many" : Str) (nv M.length) ∧ μ' = mem s a) ∨
  (j = 0 ∧ ρ = put (put (put (put ([] : Loc) ("self" : Str) (.ref 7)) ("many" : Str) (nv M.length)) ("kept" : Str) (nv k)) ("gone" : Str) (nv g) ∧ μ' = mem (s.setT jk (.lst (xs.take (xs.length - ys.length)))) ((a.setM M).setP (a.par.set g g)))) ?_ _ _ (.inl ⟨rfl, rfl, rfl⟩)
 rintro j ρ μ' (⟨rfl, rfl, rfl⟩ | ⟨rfl, rfl, rfl⟩)
 ·walk_at "w"
  refine w_bltn rfl (w_len (xs := a.mrg.map prV) rfl (by rw [List.length_map]; unfold limit; lia) ?_)
  walk_at "w"
  refine w_bltn rfl (w_max2 ?_)
  walk_at "w"
  have h1 : (max ((M.length : Nat) : Int) 0) < (((a.mrg.map prV).length : Nat) : Int) := by rw [List.length_map, hl]; lia
  refine iD h1 ?_
  walk_at "w"
  refine w_methL rfl ?_
  walk_at "w"
  refine pop_merged M k g e hM ?_
  walk_at "w"
  refine set_par hg hp ?_
  walk_at "w"
  refine w_delS ?_
  walk_at "w"
  refine w_idxL (listOf_ref rfl) (getI_map (f := lotV) ek hl8) ?_
  walk_at "w"
  refine w_idxL (listOf_ref rfl) (getI_map (f := lotV) ek hl8) ?_
  walk_at "w"
  refine w_bltn rfl (w_len (xs := xs) (lstAt_of ((tail_get ..).trans hx)) (by unfold limit; exact Nat.lt_of_le_of_lt (by assumption) (by decide)) ?_)
  walk_at "w"
  refine w_idxL (listOf_ref rfl) (getI_map (f := lotV) eg hl8) ?_
  walk_at "w"
  refine w_bltn rfl (w_len (xs := ys) (lstAt_of ((tail_get ..).trans hy)) (by unfold limit; lia) ?_)
  walk_at "w"
  refine ⟨jk + 20, _, xs, rfl, rfl, by rw [tail_get]; exact hx, ⟨by lia, by lia, by unfold limit; exact Nat.lt_of_le_of_lt (by assumption) (by decide)⟩, ?_⟩
  walk_at "w"
  have h2 : (((xs.length : Nat) : Int) - ((ys.length : Nat) : Int)).toNat = xs.length - ys.length := Int.toNat_sub _ _
  rw [h2]
  exact .inl ⟨0, by decide, rfl, .inr ⟨rfl, rfl, rfl⟩⟩
 ·walk_at "w"
  refine w_bltn rfl (w_len (xs := M.map prV) rfl (by rw [List.length_map]; unfold limit; exact Nat.lt_of_le_of_lt (by assumption) (by decide)) ?_)
  walk_at "w"
  refine w_bltn rfl (w_max2 ?_)
  walk_at "w"
  have h1 : ¬ ((max ((M.length : Nat) : Int) 0) < (((M.map prV).length : Nat) : Int)) := by rw [List.length_map]; lia
  refine iN h1 ?_
  walk_at "w"
  exact q
end
set_option tactic.hygienic true
set_option tactic.hygienic false
section
variable {s : St} {a : A} {Q : V → Mem → Prop}
theorem unjoin_same (L : Lim a) (n : Nat) {x y k m : Nat} {r w : V} {ws : List Nat} (R : Rep s ((a.same x y r).setWs ws))
  (q : ∀ v, Rep s (a.setWs ws) → Q v (mem s (a.setWs ws))) : W2 (callD (n + 100) "Levels" (nthM 12 7) [.ref 1, .tup [.str "edge", nv k, nv m, nv k, w]] (mem s ((a.same x y r).setWs ws))) Q := by
 conv => arg 1; arg 3; whnf
 walk_at "w"
 refine w_methL rfl ?_
 walk_at "w"
 refine pop_edges a.edges (edV x y r) rfl (by have := L.edges; exact Nat.le_trans (by assumption) (Nat.le_add_left _ _)) ?_
 walk_at "w"
 refine iJ rfl ?_
 walk_at "w"
 exact q _ (R.free rfl rfl rfl rfl rfl rfl rfl rfl rfl rfl rfl rfl rfl rfl rfl)
theorem set_self {l : List Nat} {g k : Nat} (h : l[g]? = some g) : (l.set g k).set g g = l := by
 rw [List.set_set]
 apply List.ext_getElem?
 intro i
 by_cases e : g = i
 ·subst e
  rw [List.getElem?_set_self (List.getElem?_eq_some_iff.mp h).1, h]
 ·rw [List.getElem?_set_ne e]
theorem unjoin_diff (O : Ok a) (n : Nat) {x y k g : Nat} {r w : V} {ws uk ug : List Nat} (R : Rep s ((a.unite x y r k g).setWs ws)) (hne : k ≠ g) (hkN : k < a.nodes.length) (hgN : g < a.nodes.length) (hgr : a.par[g]? = some g)
  (ak : a.ab k = some uk) (ag : a.ab g = some ug) (hw : AL s w ug)
  (q : ∀ v s', Fr s s' → Rep s' (a.setWs ws) → s'.changes = s.changes → Q v (mem s' (a.setWs ws))) :
  W2 (callD (n + 100) "Levels" (nthM 12 7) [.ref 1, .tup [.str "edge", nv k, nv uk.length, nv g, w]] (mem s ((a.unite x y r k g).setWs ws))) Q := by
 have S := O.toShp
 have L := O.toLim
 have hN : s.lots.length = a.nodes.length := R.lotsN
 have hl8 : s.lots.length ≤ 8 := by rw [hN]; exact S.few
 obtain ⟨jk, ek⟩ : ∃ jk, s.lots[k]? = some jk := ⟨_, List.getElem?_eq_getElem (by lia)⟩
 obtain ⟨jg, eg⟩ : ∃ jg, s.lots[g]? = some jg := ⟨_, List.getElem?_eq_getElem (by lia)⟩
 obtain ⟨xs, hxs, lxs⟩ := R.lens k jk ek
 obtain ⟨ys, hys, lys⟩ := R.lens g jg eg
 have lxs : xs.length = a.len k + a.len g := by rw [lxs]; show upd a.len k _ k = _; simp [upd]
 have lys : ys.length = a.len g := by rw [lys]; show upd a.len k _ g = _; unfold upd; rw [if_neg (fun e => hne e.symm)]
 have hM : a.mrg.length ≤ 8 := by have := R.abL; have h2 : ((a.unite x y r k g).setWs ws).mrg.length = a.mrg.length + 1 := (by show (a.mrg ++ _).length = _; simp); lia
 have lk := L.ab k uk ak
 have lg := L.ab g ug ag
 have l1 := L.lens k
 have l2 := L.lens g
 have habk : ((a.unite x y r k g).setWs ws).ab k = some (uk ++ ug) := by
  show upd (upd a.ab g none) k (some (a.us k ++ a.us g)) k = _
  rw [A.us_eq ak, A.us_eq ag]; simp [upd]
 obtain ⟨wk, dk, alk⟩ := R.abS k _ habk
 have F1 : Fr s (s.setT jk (.lst (xs.take (xs.length - ys.length)))) := Fr.setLot ek _
 have hnv : ∀ c c' : Nat, (nv c).beq (nv c') = true ↔ c = c' := fun c c' => by rw [V.beq_iff]; exact ⟨nv_inj, fun h => by rw [h]⟩
 have dklen : (dput s.above (nv k) (.lst (uk.map nv))).length = s.above.length := dput_len dk
 have okP : okKey (dput s.above (nv k) (.lst (uk.map nv))) (nv g) = true := by
  have := okKey_ab R g
  simp only [okKey, Bool.and_eq_true, List.all_eq_true] at this ⊢
  refine ⟨this.1, fun e he => ?_⟩
  have he := List.mem_map_of_mem (f := (·.1)) he
  rcases dput_keys s.above (nv k) (.lst (uk.map nv)) with ⟨_, h⟩ | ⟨h, _⟩
  ·rw [h] at he
   obtain ⟨e', h1, h2⟩ := List.mem_map.mp he
   rw [← h2]; exact this.2 e' h1
  ·exact absurd (dget_mem dk) h
 have R9 : Rep ((s.setT jk (.lst (xs.take (xs.length - ys.length)))).setAb (dput (dput s.above (nv k) (.lst (uk.map nv))) (nv g) w)) (a.setWs ws) := by
  have R1 := R.setLot ek (xs.take (xs.length - ys.length))
  have hlen : ((xs.take (xs.length - ys.length)).length) = a.len k := by rw [List.length_take, Nat.min_eq_left (Nat.sub_le _ _)]; lia
  rw [hlen] at R1
  have R2 := R1.setAb (es := dput (dput s.above (nv k) (.lst (uk.map nv))) (nv g) w) (f := a.ab) (m := a.mrg) ?_ (dput_nodup (dput_nodup R.abD _ _) _ _) ?_ ?_ ?_
  ·refine R2.free rfl rfl rfl rfl rfl rfl rfl rfl rfl ?_ rfl rfl rfl rfl rfl
   show a.len = upd (upd a.len k (a.len k + a.len g)) k (a.len k)
   funext c
   by_cases h : c = k
   ·subst h; simp [upd]
   ·simp [upd, h]
  ·intro z hz
   rcases dput_keys (dput s.above (nv k) (.lst (uk.map nv))) (nv g) w with ⟨_, h⟩ | ⟨_, h⟩ <;> rw [h] at hz
   ·rcases dput_keys s.above (nv k) (.lst (uk.map nv)) with ⟨_, h⟩ | ⟨h, _⟩
    ·rw [h] at hz; exact R.abK z hz
    ·exact absurd (dget_mem dk) h
   ·rcases List.mem_append.mp hz with hz | hz
    ·rcases dput_keys s.above (nv k) (.lst (uk.map nv)) with ⟨_, h⟩ | ⟨h, _⟩
     ·rw [h] at hz; exact R.abK z hz
     ·exact absurd (dget_mem dk) h
    ·exact ⟨g, by simpa using hz⟩
  ·intro c hc
   have h1 : c ≠ k := by rintro rfl; rw [ak] at hc; cases hc
   have h2 : c ≠ g := by rintro rfl; rw [ag] at hc; cases hc
   rw [dget_dput, if_neg (by rw [hnv]; exact fun e => h2 e.symm), dget_dput, if_neg (by rw [hnv]; exact fun e => h1 e.symm)]
   refine R.abN c ?_
   show upd (upd a.ab g none) k _ c = none
   simp [upd, h1, h2, hc]
  ·intro c us hc
   by_cases h2 : c = g
   ·subst h2
    rw [ag] at hc; cases hc
    refine ⟨w, by rw [dget_dput, if_pos (by rw [hnv])], .inr ?_⟩
    exact hw.fr F1 R.bnd fun j e => R.waB e
   ·rw [dget_dput, if_neg (by rw [hnv]; exact fun e => h2 e.symm), dget_dput]
    by_cases h1 : c = k
    ·subst h1
     rw [ak] at hc; cases hc
     exact ⟨_, by rw [if_pos (by rw [hnv])], .inr (.inl rfl)⟩
    ·rw [if_neg (by rw [hnv]; exact fun e => h1 e.symm)]
     have hc' : ((a.unite x y r k g).setWs ws).ab c = some us := by
      show upd (upd a.ab g none) k _ c = some us
      simp [upd, h1, h2, hc]
     obtain ⟨w', h3, h4⟩ := R.abS c us hc'
     exact ⟨w', h3, .inl ⟨hc', h3⟩⟩
  ·have := R.abL
   have h2 : ((a.unite x y r k g).setWs ws).mrg.length = a.mrg.length + 1 := by show (a.mrg ++ _).length = _; simp
   have h3 := dput_len1 (dput s.above (nv k) (.lst (uk.map nv))) (nv g) w
   lia
 conv => arg 1; arg 3; whnf
 walk_at "w"
 refine w_methL rfl ?_
 walk_at "w"
 refine pop_edges a.edges (edV x y r) rfl (by have := L.edges; exact Nat.le_trans (by assumption) (Nat.le_add_left _ _)) ?_
 walk_at "w"
 have hne' : ¬ ((k : Int) = g) := by exact_mod_cast hne
 refine iK hne' ?_
 walk_at "w"
 refine w_methL rfl ?_
 walk_at "w"
 refine pop_forest a.forest _ rfl (by have := L.forest; exact Nat.le_trans (by assumption) (Nat.le_add_left _ _)) ?_
 walk_at "w"
 refine w_methI rfl rfl mo_Unions_back ?_
 walk_at "w"
 refine w_bltn rfl (w_len (xs := (a.mrg ++ [(k, g)]).map prV) rfl (by rw [List.length_map, List.length_append]; simp; unfold limit; lia) ?_)
 have e1 : ((((a.mrg ++ [(k, g)]).map prV).length : Nat) : Int) - 1 = ((a.mrg.length : Nat) : Int) := by simp
 walk_at "w"
 rw [e1]
 refine uback _ a.mrg rfl (by exact Nat.le_trans (by assumption) (Nat.le_add_left _ _)) ?_ ?_ hl8 ek eg hxs hys (by lia) (by lia) ?_
 ·show (a.par.set g k).length ≤ 8
  rw [List.length_set, S.len]; exact S.few
 ·show g < (a.par.set g k).length
  rw [List.length_set, S.len]; exact hgN
 have alk2 := alk.fr F1 R.bnd fun j e => R.waB e
 walk_at "w"
 refine get_above s.above rfl (okKey_ab R k) dk ?_
 walk_at "w"
 refine w_evo1 ?_
 walk_at "w"
 refine ⟨_, rfl, ?_⟩
 refine w_slL alk2.listOf (by rw [List.length_map, List.length_append]; unfold limit; lia) (cutL_to (by exact Int.natCast_nonneg _)) ?_
 have e2 : ((uk ++ ug).map nv).take ((uk.length : Nat) : Int).toNat = uk.map nv := by
  rw [Int.toNat_natCast, List.map_append, List.take_left' (by simp)]
 rw [e2]
 walk_at "w"
 refine set_above s.above rfl (okKey_ab R k) (ab_lim R) ?_
 walk_at "w"
 refine set_above (dput s.above (nv k) (.lst (uk.map nv))) rfl okP (by rw [dklen]; exact ab_lim R) ?_
 walk_at "w"
 have e3 : (a.par.set g k).set g g = a.par := set_self hgr
 have := q .none ((s.setT jk (.lst (xs.take (xs.length - ys.length)))).setAb (dput (dput s.above (nv k) (.lst (uk.map nv))) (nv g) w)) (F1.trans (Fr.plain rfl rfl rfl rfl rfl rfl rfl)) R9 rfl
 have e4 : ∀ s' : St, mem s' (a.setWs ws) = mem s' ((((((a.unite x y r k g).setWs ws).setE a.edges).setF a.forest).setM a.mrg).setP ((a.par.set g k).set g g)) := fun s' => by rw [e3]; rfl
 rw [e4] at this
 exact this
end
set_option tactic.hygienic true
/-- what a level has changed: the count of changes since b -/
inductive Chain (b : A) : Nat → A → Prop
 | refl (ws : List Nat) : Chain b 0 (b.setWs ws)
 | known {j : Nat} {a : A} (sg : Nd) (n : Nat) (ws : List Nat) : Chain b j a → Ok a → a.known.lookup sg = none → Chain b (j + 1) (((a.setCh (a.ch ++ [.known sg])).setK (a.known ++ [(sg, n)])).setWs ws)
 | join {j : Nat} {a : A} (x y : Nat) (r : V) (ws : List Nat) : Chain b j a → Ok a → x < a.nodes.length → y < a.nodes.length → Chain b (j + 1) ((a.join x y r).setWs ws)
theorem joinK_mk (a : A) (x y : Nat) (r : V) (m : List (Nat × List Nat × Nat)) : (a.join x y r).setMk m = (a.setMk m).join x y r := by
 unfold A.join A.joinK
 show (if min (find a.par x) (find a.par y) = max (find a.par x) (find a.par y) then _ else _ : A).setMk m = if min (find a.par x) (find a.par y) = max (find a.par x) (find a.par y) then _ else _
 split <;> rfl
theorem Ok.mk' {a : A} (O : Ok a) (m : List (Nat × List Nat × Nat)) : Ok (a.setMk m) := ⟨⟨O.up, O.len, O.few, O.kids⟩, ⟨O.edges, O.forest, O.known, O.ws, O.ch, O.ab, O.lens⟩, O.abR, O.kn⟩
theorem Chain.mk' {b a : A} {j : Nat} (h : Chain b j a) (m : List (Nat × List Nat × Nat)) : Chain (b.setMk m) j (a.setMk m) := by
 induction h with
 | refl ws => exact .refl ws
 | known sg n ws _ O hk ih => exact .known sg n ws ih (O.mk' m) hk
 | @join j a x y r ws _ O hx hy ih =>
  have := Chain.join x y r ws ih (O.mk' m) hx hy
  rw [← joinK_mk] at this
  exact this
theorem joinK_ch (a : A) (x y : Nat) (r : V) : (a.join x y r).ch.length = a.ch.length + 1 := by
 unfold A.join A.joinK
 split
 ·show (a.ch ++ _).length = _; simp
 ·show (a.ch ++ _).length = _; simp
theorem Chain.len {b a : A} {j : Nat} (h : Chain b j a) : a.ch.length = b.ch.length + j := by
 induction h with
 | refl ws => rfl
 | @known j a sg n ws _ _ _ ih =>
  show (a.ch ++ [_]).length = _; rw [List.length_append, ih]; rfl
 | @join j a x y r ws _ _ _ _ ih => show (a.join x y r).ch.length = _; rw [joinK_ch, ih]; rfl
theorem Chain.ws {b a : A} {j : Nat} (h : Chain b j a) (ws : List Nat) : Chain b j (a.setWs ws) := by
 cases h with
 | refl _ => exact .refl ws
 | known sg n _ h O hk => exact .known sg n ws h O hk
 | join x y r _ h O hx hy => exact .join x y r ws h O hx hy
noncomputable def St.setBk (s : St) (i : Int) : St := { s with backs := i }
noncomputable def St.setWa (s : St) (w : Option Nat) : St := { s with wa := w }
section
variable {s : St} {a : A} {Q : V → Mem → Prop}
theorem Rep.popCh {v : V} {c : Ch} {cs : List V} {ds : List Ch} (R : Rep s a) (e1 : s.changes = cs ++ [v]) (e2 : a.ch = ds ++ [c]) : Rep (s.setCh cs) (a.setCh ds) := by
 have := R.ch
 rw [e2] at this
 obtain ⟨zs, z, h1, h2, _⟩ := this.unsnoc
 rw [e1] at h1
 have : cs = zs := by simpa using (List.append_inj' h1 rfl).1
 subst this
 exact R.setCh h2
theorem ch_last {c : Ch} {ds : List Ch} (R : Rep s a) (e : a.ch = ds ++ [c]) : ∃ cs v, s.changes = cs ++ [v] ∧ ChR s v c := by
 have := R.ch
 rw [e] at this
 obtain ⟨zs, z, h1, _, h3⟩ := this.unsnoc
 exact ⟨zs, z, h1, h3⟩
theorem del_known (K : List (Nd × Nat)) (sg : Nd) (n : Nat) (e : a.known = K ++ [(sg, n)]) (h : K.lookup sg = none) (hl : K.length ≤ 2000) {R : Fl → Loc → Mem → Prop} {ρ : Loc} (q : R .next ρ (mem s (a.setK K))) :
  ∃ k es, V.ref 13 = .ref k ∧ (mem s a)[k]? = some (.dict es) ∧ (okKey es (ndV sg) && decide (es.length < limit) && (dget es (ndV sg)).isSome) = true ∧ R .next ρ ((mem s a).set k (.dict (ddel es (ndV sg)))) := by
 have h1 : dget (K.map knV) (ndV sg) = none := by rw [dget_known, h]; rfl
 have h2 : a.known.map knV = K.map knV ++ [(ndV sg, nv n)] := by rw [e]; simp [knV]
 refine ⟨13, a.known.map knV, rfl, rfl, ?_, ?_⟩
 ·rw [okKey_known, h2, dget_app h1, if_pos (by rw [V.beq_iff])]
  simp; unfold limit; lia
 ·have : ddel (a.known.map knV) (ndV sg) = K.map knV := by rw [h2, ddel_last h1]
  rw [this]; exact q
theorem AL.of {s s' : St} (h1 : s'.bound = s.bound) (h2 : s'.lots = s.lots) (h3 : s'.tail = s.tail) {w : V} {us : List Nat} (x : AL s w us) : AL s' w us := by
 rcases x with rfl | ⟨j, e1, e2, rfl, e3⟩
 ·exact .inl rfl
 ·exact .inr ⟨j, by rw [h1]; exact e1, by rw [h2]; exact e2, rfl, by rw [h3]; exact e3⟩
theorem ChR.of {s s' : St} (h1 : s'.bound = s.bound) (h2 : s'.lots = s.lots) (h3 : s'.tail = s.tail) {v : V} {c : Ch} (x : ChR s v c) : ChR s' v c := by
 cases x with
 | made n => exact .made n
 | known d => exact .known d
 | edge k m g h => exact .edge k m g (h.of h1 h2 h3)
theorem Rep.toWa (R : Rep s a) (hm : s.marks = []) (hmk : a.mks = []) {jw : Nat} {ws0 : List Nat} (jb : s.bound ≤ jw) (jt : s.tail[jw]? = some (.lst (ws0.map nv))) : Rep (s.setWa (some jw)) (a.setWs ws0) := by
 obtain ⟨q1, q2, q3, q4, q5, q6, q7, q8, q9, q10, q11, q12, q13⟩ := R
 refine ⟨q1, q2, q3, q4, q5, ⟨jb, jt⟩, q7, q8, q9, fun c us h => ?_, q11, q12.imp fun v c x => x.of (s := s) (s' := s.setWa (some jw)) rfl rfl rfl, ?_⟩
 ·obtain ⟨w, h1, h2⟩ := q10 c us h
  exact ⟨w, h1, h2.of (s := s) (s' := s.setWa (some jw)) rfl rfl rfl⟩
 ·show All2 _ s.marks a.mks
  rw [hm, hmk]; exact .nil
inductive Iv41 (s : St) (b : A) (jw : Nat) (j : Nat) (ρ : Loc) (μ' : Mem) : Prop
 | mk (s' : St) (a' : A) (_ : Lk ρ [("self", .ref 1), ("many", nv b.ch.length), ("waiting", .ref (jw + 20))]) (_ : μ' = mem s' a') (_ : Fr s s') (_ : Rep s' a') (_ : a'.mks = []) (_ : Chain (b.setMk []) j a') (_ : a'.ch.length ≤ 3000) : Iv41 s b jw j ρ μ'
theorem hpop {s0 : St} {b : A} {ws0 : List Nat} {j : Nat} (hj : j ≤ 100) (hb : b.mks = [(b.ch.length, ws0, s0.tail.length)]) (ha : a.mks = b.mks) (C : Chain b j a) (O : Ok a) (R : Rep s a) (F0 : Fr s0 s) (n : Nat)
  (q : ∀ v s', Fr s0 s' → Rep s' ((b.setMk []).setWs ws0) → Q v (mem s' ((b.setMk []).setWs ws0))) : W2 (callD (n + 340) "Levels" (nthM 12 3) [.ref 1] (mem s a)) Q := by
 have hmk := R.mrk
 rw [ha, hb] at hmk
 obtain ⟨mv, hmarks, hmv⟩ : ∃ v, s.marks = [v] ∧ MkR s v (b.ch.length, ws0, s0.tail.length) := by
  generalize s.marks = M at hmk
  cases hmk with
  | cons h r => cases r; exact ⟨_, rfl, h⟩
 obtain ⟨jw, rfl, jb, jwa, jt, jl⟩ := hmv
 have jt : s.tail[jw]? = some (.lst (ws0.map nv)) := jt
 have jl : s0.tail.length ≤ jw := jl
 conv => arg 1; arg 3; whnf
 walk_at "w"
 refine w_bltn rfl (w_len (xs := s.marks) rfl (by rw [hmarks]; exact (by decide : 1 < limit)) ?_)
 walk_at "w"
 have h0 : ¬ (((s.marks.length : Nat) : Int) = 0) := by rw [hmarks]; exact (by decide : ¬ ((1 : Nat) : Int) = 0)
 refine iN h0 ?_
 walk_at "w"
 refine w_methL rfl ?_
 walk_at "w"
 refine pop_marks [] _ hmarks (by decide) ?_
 walk_at "w"
 have C2 := C.mk' []
 have wb : ∀ j, s.wa = some j → s.bound ≤ j := fun j e => R.waB e
 have R2 : Rep ((s.setMk []).setBk (s.backs + 1)) (a.setMk []) := by
  obtain ⟨q1, q2, q3, q4, q5, q6, q7, q8, q9, q10, q11, q12, q13⟩ := R
  exact ⟨q1, q2, q3, q4, q5, q6, q7, q8, q9, q10, q11, q12.imp fun v c x => x.fr (Fr.plain (s := s) (s' := (s.setMk []).setBk (s.backs + 1)) rfl rfl rfl rfl rfl rfl rfl) q5 wb, .nil⟩
 have F2 : Fr s ((s.setMk []).setBk (s.backs + 1)) := Fr.plain rfl rfl rfl rfl rfl rfl rfl
 have hbl : (b.setMk []).ch.length = b.ch.length := rfl
 refine w_whl (I := Iv41 s b jw) ?_ j _ _ ⟨_, _, .cons rfl (.cons rfl (.cons rfl (.nil _))), rfl, F2, R2, rfl, C2, Nat.le_trans O.ch (by decide)⟩
 rintro jj ρ μ' ⟨s1, a1, L, rfl, F1, R1, hmk1, C1, hc3⟩
 have hcl := C1.len
 have hl1 := R1.ch.length
 rw [hbl] at hcl
 walk_at "w"
 refine w_bltn rfl (w_len (xs := s1.changes) rfl (by unfold limit; lia) ?_)
 walk_at "w"
 cases C1 with
 | refl ws =>
  have h1 : ¬ (((b.ch.length : Nat) : Int) < ((s1.changes.length : Nat) : Int)) := by rw [hl1, hcl]; lia
  refine iN h1 ?_
  walk_at "w"
  have jlt : jw < s.tail.length := (List.getElem?_eq_some_iff.mp jt).1
  have jt1 : s1.tail[jw]? = some (.lst (ws0.map nv)) := by rw [F1.keep jw jlt (fun q => by have := R.lotsB jw q; exact absurd (by assumption) (Nat.not_lt_of_le (by assumption))) jwa]; exact jt
  have F3 := F0.trans F1
  have hm1 : s1.marks = [] := List.length_eq_zero_iff.mp (by rw [R1.mrk.length]; rfl)
  exact q .none (s1.setWa (some jw)) ⟨F3.bound, F3.lots, F3.more, .inr ⟨jw, rfl, jl⟩, F3.keep, F3.clock, F3.o18, F3.o19⟩ (R1.toWa hm1 rfl (by rw [F1.bound]; exact jb) jt1)
 | known sg m ws C2 O2 hk =>
  have h1 : (((b.ch.length : Nat) : Int) < ((s1.changes.length : Nat) : Int)) := by rw [hl1, hcl]; exact Int.ofNat_lt.mpr (Nat.lt_add_of_pos_right (Nat.succ_pos _))
  refine iD h1 ?_
  rename_i j' a2
  obtain ⟨cs, v, ecs, hv⟩ := ch_last R1 (c := .known sg) (ds := a2.ch) rfl
  cases hv
  have lcs : cs.length ≤ 10000 := by have := congrArg List.length ecs; simp at this; lia
  have R3 : Rep (s1.setCh cs) (a2.setWs ws) := (R1.popCh ecs (ds := a2.ch) rfl).free rfl rfl rfl rfl rfl rfl rfl rfl rfl rfl rfl rfl rfl rfl rfl
  walk_at "w"
  refine w_methL rfl ?_
  walk_at "w"
  refine pop_changes cs _ ecs lcs ?_
  walk_at "w"
  refine w_idxT rfl ?_
  walk_at "w"
  refine w_eqS (by decide +kernel) ?_
  refine iN (by decide +kernel) ?_
  walk_at "w"
  refine w_idxT rfl ?_
  walk_at "w"
  refine w_eqS (by decide +kernel) ?_
  refine iD (by decide +kernel) ?_
  walk_at "w"
  refine w_delI ?_
  walk_at "w"
  refine w_idxT rfl ?_
  refine del_known a2.known sg m rfl hk O2.known ?_
  walk_at "w"
  rename_i L2
  exact .inl ⟨j', by solve_by_elim (maxDepth := 4) only [*, Nat.add_le_add, Nat.mul_le_mul, Nat.le_refl, Nat.succ_le_succ, Nat.le_trans, Nat.le_of_lt, Nat.pos_of_ne_zero, Nat.sub_le, Nat.le_sub_of_add_le], rfl, s1.setCh cs, a2.setWs ws, L2.sub (Lk.cons rfl (Lk.cons rfl (Lk.cons rfl (Lk.nil _)))), rfl, F1.trans (Fr.setCh _ _), R3, hmk1, C2.ws ws, Nat.le_trans O2.ch (by decide)⟩
 | join x y r ws C2 O2 hx hy =>
  have h1 : (((b.ch.length : Nat) : Int) < ((s1.changes.length : Nat) : Int)) := by rw [hl1, hcl]; exact Int.ofNat_lt.mpr (Nat.lt_add_of_pos_right (Nat.succ_pos _))
  refine iD h1 ?_
  rename_i j' a2
  have hj2 : a2.join x y r = a2.joinK x y r (min (find a2.par x) (find a2.par y)) (max (find a2.par x) (find a2.par y)) := rfl
  have lx := findLt O2.toShp hx
  have ly := findLt O2.toShp hy
  have bx := findB O2.toShp hx
  have bY := findB O2.toShp hy
  obtain ⟨uk, ak⟩ : ∃ us, a2.ab (min (find a2.par x) (find a2.par y)) = some us := by
   rcases Nat.le_total (find a2.par x) (find a2.par y) with h | h
   ·rw [Nat.min_eq_left h]; exact O2.abR _ bx
   ·rw [Nat.min_eq_right h]; exact O2.abR _ bY
  obtain ⟨ug, ag⟩ : ∃ us, a2.ab (max (find a2.par x) (find a2.par y)) = some us := by
   rcases Nat.le_total (find a2.par x) (find a2.par y) with h | h
   ·rw [Nat.max_eq_right h]; exact O2.abR _ bY
   ·rw [Nat.max_eq_left h]; exact O2.abR _ bx
  have hgr : a2.par[max (find a2.par x) (find a2.par y)]? = some (max (find a2.par x) (find a2.par y)) := by
   rcases Nat.le_total (find a2.par x) (find a2.par y) with h | h
   ·rw [Nat.max_eq_right h]; exact bY
   ·rw [Nat.max_eq_left h]; exact bx
  have hkN : min (find a2.par x) (find a2.par y) < a2.nodes.length := Nat.lt_of_le_of_lt (Nat.min_le_left _ _) lx
  have hgN : max (find a2.par x) (find a2.par y) < a2.nodes.length := Nat.max_lt.mpr ⟨lx, ly⟩
  have eus : a2.us (min (find a2.par x) (find a2.par y)) = uk := A.us_eq ak
  have eug : a2.us (max (find a2.par x) (find a2.par y)) = ug := A.us_eq ag
  rw [hj2] at R1 hc3 hl1 hmk1 ⊢
  generalize min (find a2.par x) (find a2.par y) = k at *
  generalize max (find a2.par x) (find a2.par y) = g at *
  unfold A.joinK at R1 hc3 hl1 hmk1 ⊢
  by_cases he : k = g
  ·subst he
   rw [if_pos rfl] at R1 hc3 hl1 hmk1 ⊢
   obtain ⟨cs, v, ecs, hv⟩ := ch_last R1 (c := .edge k (a2.us k).length k (a2.us k)) (ds := a2.ch) rfl
   have lcs : cs.length ≤ 10000 := by have := congrArg List.length ecs; simp at this; lia
   have R3 : Rep (s1.setCh cs) ((a2.same x y r).setWs ws) := R1.popCh ecs (ds := a2.ch) rfl
   cases hv
   walk_at "w"
   refine w_methL rfl ?_
   walk_at "w"
   refine pop_changes cs _ ecs lcs ?_
   walk_at "w"
   refine w_idxT rfl ?_
   walk_at "w"
   refine w_eqS (by decide +kernel) ?_
   refine iN (by decide +kernel) ?_
   walk_at "w"
   refine w_idxT rfl ?_
   walk_at "w"
   refine w_eqS (by decide +kernel) ?_
   refine iN (by decide +kernel) ?_
   walk_at "w"
   refine w_methI rfl rfl mo_Levels_unjoin ?_
   walk_at "w"
   refine unjoin_same O2.toLim _ R3 ?_
   intro v R4
   walk_at "w"
   rename_i L2
   exact .inl ⟨j', by solve_by_elim (maxDepth := 4) only [*, Nat.add_le_add, Nat.mul_le_mul, Nat.le_refl, Nat.succ_le_succ, Nat.le_trans, Nat.le_of_lt, Nat.pos_of_ne_zero, Nat.sub_le, Nat.le_sub_of_add_le], rfl, s1.setCh cs, a2.setWs ws, L2.sub (Lk.cons rfl (Lk.cons rfl (Lk.cons rfl (Lk.nil _)))), rfl, F1.trans (Fr.setCh _ _), R4, hmk1, C2.ws ws, Nat.le_trans O2.ch (by decide)⟩
  ·rw [if_neg he] at R1 hc3 hl1 hmk1 ⊢
   obtain ⟨cs, v, ecs, hv⟩ := ch_last R1 (c := .edge k (a2.us k).length g (a2.us g)) (ds := a2.ch) rfl
   have lcs : cs.length ≤ 10000 := by have := congrArg List.length ecs; simp at this; lia
   have R3 : Rep (s1.setCh cs) ((a2.unite x y r k g).setWs ws) := R1.popCh ecs (ds := a2.ch) rfl
   rw [eus, eug] at hv
   cases hv
   rename_i w hw
   walk_at "w"
   refine w_methL rfl ?_
   walk_at "w"
   refine pop_changes cs _ ecs lcs ?_
   walk_at "w"
   refine w_idxT rfl ?_
   walk_at "w"
   refine w_eqS (by decide +kernel) ?_
   refine iN (by decide +kernel) ?_
   walk_at "w"
   refine w_idxT rfl ?_
   walk_at "w"
   refine w_eqS (by decide +kernel) ?_
   refine iN (by decide +kernel) ?_
   walk_at "w"
   refine w_methI rfl rfl mo_Levels_unjoin ?_
   walk_at "w"
   refine unjoin_diff O2 _ R3 he hkN hgN hgr ak ag (hw.of rfl rfl rfl) ?_
   intro v s4 F4 R4 hch4
   walk_at "w"
   rename_i L2
   refine .inl ⟨j', by solve_by_elim (maxDepth := 4) only [*, Nat.add_le_add, Nat.mul_le_mul, Nat.le_refl, Nat.succ_le_succ, Nat.le_trans, Nat.le_of_lt, Nat.pos_of_ne_zero, Nat.sub_le, Nat.le_sub_of_add_le], rfl, s4, a2.setWs ws, L2.sub (Lk.cons rfl (Lk.cons rfl (Lk.cons rfl (Lk.nil _)))), rfl, (F1.trans (Fr.setCh _ _)).trans F4, R4, hmk1, C2.ws ws, Nat.le_trans O2.ch (by decide)⟩
end
set_option tactic.hygienic false
/-- the least likeness that holds the pairs -/
inductive Cl (N : List Nd) (P : List (Nat × Nat)) : Nat → Nat → Prop
 | refl (x : Nat) : Cl N P x x
 | symm {x y : Nat} : Cl N P x y → Cl N P y x
 | trans {x y z : Nat} : Cl N P x y → Cl N P y z → Cl N P x z
 | told {x y : Nat} : (x, y) ∈ P → Cl N P x y
 | cong {x y : Nat} {d e : Nd} : N[x]? = some d → N[y]? = some e → d.1 = e.1 → d.2.length = e.2.length → (∀ i u v : Nat, d.2[i]? = some u → e.2[i]? = some v → Cl N P u v) → Cl N P x y
theorem Cl.mono {N : List Nd} {P P' : List (Nat × Nat)} (h : ∀ p ∈ P, p ∈ P') {x y : Nat} (c : Cl N P x y) : Cl N P' x y := by
 induction c with
 | refl x => exact .refl x
 | symm _ ih => exact .symm ih
 | trans _ _ a b => exact .trans a b
 | told m => exact .told (h _ m)
 | cong a b c d _ ih => exact .cong a b c d ih
/-- the least of all -/
theorem Cl.least {N : List Nd} {P : List (Nat × Nat)} {R : Nat → Nat → Prop} (r : ∀ x, R x x) (s : ∀ x y, R x y → R y x) (t : ∀ x y z, R x y → R y z → R x z) (p : ∀ x y, (x, y) ∈ P → R x y)
  (c : ∀ x y d e, N[x]? = some d → N[y]? = some e → d.1 = e.1 → d.2.length = e.2.length → (∀ i u v : Nat, d.2[i]? = some u → e.2[i]? = some v → R u v) → R x y) {x y : Nat} (h : Cl N P x y) : R x y := by
 induction h with
 | refl x => exact r x
 | symm _ ih => exact s _ _ ih
 | trans _ _ a b => exact t _ _ _ a b
 | told m => exact p _ _ m
 | cong h1 h2 h3 h4 _ ih => exact c _ _ _ _ h1 h2 h3 h4 ih
theorem up_set {par : List Nat} (U : Up par) {k g : Nat} (h : k ≤ g) : Up (par.set g k) := by
 intro i b e
 by_cases q : g = i
 ·subst q
  rw [List.getElem?_set] at e
  simp only [if_true] at e
  split at e
  ·cases e; exact h
  ·cases e
 ·rw [List.getElem?_set_ne q] at e
  exact U i b e
theorem find_set {par : List Nat} (U : Up par) {k g : Nat} (hk : par[k]? = some k) (hg : par[g]? = some g) (h : k < g) : ∀ (f x : Nat), x ≤ f → x < par.length → find (par.set g k) x = if find par x = g then k else find par x := by
 have hgl : g < par.length := (List.getElem?_eq_some_iff.mp hg).1
 have U' := up_set U (Nat.le_of_lt h)
 have hk' : (par.set g k)[k]? = some k := by rw [List.getElem?_set_ne (by exact Nat.ne_of_gt (by assumption))]; exact hk
 have hg' : (par.set g k)[g]? = some k := by rw [List.getElem?_set_self hgl]
 intro f
 induction f with
 | zero =>
  intro x hx hl
  have : x = 0 := by exact Nat.eq_zero_of_le_zero (by assumption)
  subst this
  have e0 : par[0]? = some par[0] := List.getElem?_eq_getElem hl
  have : par[0] = 0 := by have := U 0 _ e0; exact Nat.eq_zero_of_le_zero (by assumption)
  rw [this] at e0
  have e1 : (par.set g k)[0]? = some 0 := by rw [List.getElem?_set_ne (by lia)]; exact e0
  rw [find_root e0, find_root e1, if_neg (by lia)]
 | succ f ih =>
  intro x hx hl
  have e0 : par[x]? = some par[x] := List.getElem?_eq_getElem hl
  by_cases q : par[x] = x
  ·rw [q] at e0
   rw [find_root e0]
   by_cases q2 : x = g
   ·subst q2
    rw [if_pos rfl, find_step U' hg', find_root hk']
   ·rw [if_neg q2]
    exact find_root (by rw [List.getElem?_set_ne (fun e => q2 e.symm)]; exact e0)
  ·have hlt := U x _ e0
   have hne : g ≠ x := by rintro rfl; have := hg.symm.trans e0; injection this with this; exact q this.symm
   have e1 : (par.set g k)[x]? = some par[x] := by rw [List.getElem?_set_ne hne]; exact e0
   rw [find_step U e0, find_step U' e1]
   have hlx := Nat.lt_of_le_of_ne hlt q
   exact ih _ (Nat.le_of_lt_succ (Nat.lt_of_lt_of_le hlx hx)) (Nat.lt_trans hlx hl)
/-- a count of a range, one place turned -/
theorem count_turn (p p' : Nat → Bool) (g : Nat) (h1 : p g = true) (h2 : p' g = false) (h3 : ∀ x, x ≠ g → p' x = p x) : ∀ (l : List Nat), l.Nodup → g ∈ l → l.countP p' + 1 = l.countP p
 | [], _, h => by cases h
 | x :: l, hn, h => by
  rw [List.nodup_cons] at hn
  rw [List.countP_cons, List.countP_cons]
  by_cases q : x = g
  ·subst q
   rw [h1, h2]
   have : l.countP p' = l.countP p := by
    apply List.countP_congr
    intro y hy
    rw [h3 y (by rintro rfl; exact hn.1 hy)]
   simp [this]
  ·have hm : g ∈ l := by
    rcases List.mem_cons.mp h with e | e
    ·exact absurd e.symm q
    ·exact e
   rw [h3 x q]
   have := count_turn p p' g h1 h2 h3 l hn.2 hm
   lia
noncomputable def rootsN (par : List Nat) (N : Nat) : Nat := (List.range N).countP fun c => par[c]? == some c
/-- the heap's state as to the pairs P -/
structure Inv (P : List (Nat × Nat)) (a : A) : Prop extends Ok a where
 made : a.made = a.nodes.length
 sound : ∀ x, x < a.nodes.length → Cl a.nodes P x (find a.par x)
 kn1 : ∀ sg o, a.known.lookup sg = some o → ∃ d, a.nodes[o]? = some d ∧ d.1 = sg.1 ∧ d.2.length = sg.2.length ∧ ∀ i u v : Nat, d.2[i]? = some u → sg.2[i]? = some v → Cl a.nodes P u v
 use : ∀ n d k, a.nodes[n]? = some d → k ∈ d.2 → n ∈ a.us (find a.par k)
 usN : ∀ c, ∀ n ∈ a.us c, n < a.nodes.length
 wsN : ∀ n ∈ a.ws, n < a.nodes.length
 five : a.nodes.length ≤ 5
 roots : rootsN a.par a.nodes.length + a.mrg.length = a.nodes.length
 usb : ∀ c, (a.us c).length ≤ 2 ^ (a.mrg.length + 1)
 lenb : ∀ i, a.len i ≤ 2 ^ a.mrg.length
 eb : a.edges.length ≤ a.ch.length
 fb : a.forest.length ≤ a.ch.length
 kb : a.known.length ≤ a.ch.length
 /-- what is still to come -/
 pot : a.ws.length + a.ch.length + (32 - 2 ^ (a.mrg.length + 1)) ≤ 900
 edp : ∀ e ∈ a.edges, e.pureN 3 = true
/-- all but the waiting are at their place -/
noncomputable def Done (a : A) : Prop := ∀ n d, a.nodes[n]? = some d → n ∈ a.ws ∨ ∃ o, a.known.lookup (sigOf a.par d) = some o ∧ find a.par o = find a.par n
noncomputable def pot (a : A) : Nat := a.ws.length + (32 - 2 ^ (a.mrg.length + 1))
section
variable {P : List (Nat × Nat)} {a : A}
theorem few_mrg {r m n : Nat} (h : r + m = n) (h5 : n ≤ 5) (h1 : 0 < r) : m ≤ 4 :=
 Nat.le_of_add_le_add_left (a := 1) (Nat.le_trans (Nat.add_le_add_right h1 m) (h ▸ h5))
theorem Inv.m4 (I : Inv P a) (h : 0 < a.nodes.length) : a.mrg.length ≤ 4 := by
 have h0 : 0 < a.par.length := by rw [I.len]; exact h
 have e0 : a.par[0]? = some a.par[0] := List.getElem?_eq_getElem h0
 have : a.par[0] = 0 := by have := I.up 0 _ e0; exact Nat.eq_zero_of_le_zero (by assumption)
 rw [this] at e0
 have h1 : 0 < rootsN a.par a.nodes.length := by
  unfold rootsN
  rw [List.countP_pos_iff]
  exact ⟨0, List.mem_range.mpr h, by simp [e0]⟩
 exact few_mrg I.roots I.five h1
theorem pow5 {m : Nat} (h : m ≤ 4) : 2 ^ (m + 1) ≤ 32 ∧ 2 ^ m ≤ 16 :=
 ⟨Nat.pow_le_pow_right (n := 2) (j := 5) (by decide) (Nat.succ_le_succ h), Nat.pow_le_pow_right (n := 2) (j := 4) (by decide) h⟩
theorem sig_cl (I : Inv P a) {x o : Nat} {d : Nd} (hx : a.nodes[x]? = some d) (hk : a.known.lookup (sigOf a.par d) = some o) : Cl a.nodes P o x := by
 obtain ⟨e, h1, h2, h3, h4⟩ := I.kn1 _ _ hk
 refine .cong h1 hx h2 (by rw [h3]; simp [sigOf]) fun i u v hu hv => ?_
 have hv' : (sigOf a.par d).2[i]? = some (find a.par v) := by simp [sigOf, hv]
 refine (h4 i u _ hu hv').trans (.symm (I.sound v ?_))
 exact (I.kids d (List.mem_of_getElem? hx)).2 v (List.mem_of_getElem? hv)
end
set_option tactic.hygienic true
set_option tactic.hygienic false
noncomputable def total (a : A) : Nat := a.ws.length + a.ch.length + (32 - 2 ^ (a.mrg.length + 1))
structure JoinR (P : List (Nat × Nat)) (a b : A) (x y : Nat) : Prop where
 inv : Inv P b
 tot : total b ≤ total a + 1
 pt : pot b ≤ pot a
 nodes : b.nodes = a.nodes
 known : b.known = a.known
 mks : b.mks = a.mks
 keep : ∀ u v, u < a.nodes.length → v < a.nodes.length → find a.par u = find a.par v → find b.par u = find b.par v
 one : find b.par x = find b.par y
 ws : ∀ n ∈ a.ws, n ∈ b.ws
 sig : ∀ n d, a.nodes[n]? = some d → n ∈ b.ws ∨ sigOf b.par d = sigOf a.par d
theorem total_pot (a : A) : total a = pot a + a.ch.length := Nat.add_right_comm _ _ _
theorem total_ch {a : A} (h : total a + 1 ≤ 900) : a.ch.length + 1 ≤ 900 := Nat.le_trans (Nat.succ_le_succ (by rw [total_pot]; exact Nat.le_add_left _ _)) h
theorem len_snoc {α : Type _} (l : List α) (x : α) : (l ++ [x]).length = l.length + 1 := List.length_append
theorem snoc_le {α β : Type _} {l : List α} {m : List β} (x : α) (y : β) (h : l.length ≤ m.length) : (l ++ [x]).length ≤ (m ++ [y]).length := by
 rw [len_snoc, len_snoc]; exact Nat.succ_le_succ h
theorem le_snoc {α β : Type _} {l : List α} {m : List β} (y : β) (h : l.length ≤ m.length) : l.length ≤ (m ++ [y]).length := by
 rw [len_snoc]; exact Nat.le_succ_of_le h
theorem snoc_few {α β : Type _} {l : List α} {m : List β} (x : α) (y : β) (h : l.length ≤ m.length) (k : (m ++ [y]).length ≤ 900) : (l ++ [x]).length ≤ 2000 :=
 Nat.le_trans (Nat.le_trans (snoc_le x y h) k) (by decide)
theorem pot_le {w u q Q : Nat} (b : u ≤ q) (e : Q = q * 2) (h : Q ≤ 32) : w + u + (32 - Q) ≤ w + (32 - q) := by
 rw [Nat.add_assoc]
 refine Nat.add_le_add_left (Nat.le_sub_of_add_le ?_) _
 rw [Nat.add_right_comm]
 refine Nat.le_trans (Nat.add_le_add_right (k := 32 - Q) (?_ : u + q ≤ Q)) (Nat.le_of_eq (Nat.add_sub_cancel' h))
 rw [e, Nat.mul_two]; exact Nat.add_le_add_right b _
theorem few_roots {r m n : Nat} (h : r + m = n) (h5 : n ≤ 5) (h2 : 2 ≤ r) : m ≤ 3 :=
 Nat.le_of_add_le_add_left (a := 2) (Nat.le_trans (Nat.add_le_add_right h2 m) (h ▸ h5))
theorem min_max {a b : Nat} (h : min a b = max a b) : a = b :=
 Nat.le_antisymm (Nat.le_trans (Nat.le_max_left a b) (Nat.le_trans (Nat.le_of_eq h.symm) (Nat.min_le_right a b))) (Nat.le_trans (Nat.le_max_right a b) (Nat.le_trans (Nat.le_of_eq h.symm) (Nat.min_le_left a b)))
theorem same_inv {P : List (Nat × Nat)} {a : A} (I : Inv P a) (x y : Nat) (r : V) (c : Ch) (hr : r.pureN 2 = true) (ht : total a + 1 ≤ 900) (he : find a.par x = find a.par y) : JoinR P a ((a.setCh (a.ch ++ [c])).same x y r) x y := by
 have hcl := len_snoc a.ch c
 have htot : total ((a.setCh (a.ch ++ [c])).same x y r) = total a + 1 := by
  rw [total_pot, total_pot a]
  exact congrArg (pot a + ·) hcl
 refine ⟨?_, Nat.le_of_eq htot, Nat.le_refl _, rfl, rfl, rfl, fun _ _ _ _ h => h, he, fun _ h => h, fun _ _ _ => .inr rfl⟩
 have hch := Nat.le_trans (Nat.le_of_eq hcl) (total_ch ht)
 exact { I with
  edges := snoc_few _ _ I.eb hch
  ch := Nat.le_trans hch (by decide)
  eb := snoc_le _ _ I.eb
  fb := le_snoc _ I.fb
  kb := le_snoc _ I.kb
  pot := Nat.le_trans (Nat.le_of_eq htot) ht
  edp := fun e h => by
   rcases List.mem_append.mp h with h | h
   ·exact I.edp e h
   ·rw [List.mem_singleton] at h
    subst h
    exact Bool.and_eq_true_iff.mpr ⟨hr, rfl⟩ }
theorem unite_inv {P : List (Nat × Nat)} {a : A} (I : Inv P a) {x y k g : Nat} (hx : x < a.nodes.length) (hy : y < a.nodes.length) (r : V) (c : Ch) (hr : r.pureN 2 = true) (ht : total a + 1 ≤ 900) (hc : Cl a.nodes P x y)
  (hk : k = min (find a.par x) (find a.par y)) (hg : g = max (find a.par x) (find a.par y)) (hne : k ≠ g) : JoinR P a ((a.setCh (a.ch ++ [c])).unite x y r k g) x y := by
 have S := I.toShp
 have fx := findB S hx
 have fy := findB S hy
 have lx := findLt S hx
 have ly := findLt S hy
 have D : find a.par x = k ∧ find a.par y = g ∨ find a.par x = g ∧ find a.par y = k := by
  rcases Nat.le_total (find a.par x) (find a.par y) with h | h
  ·exact .inl ⟨(hk.trans (Nat.min_eq_left h)).symm, (hg.trans (Nat.max_eq_right h)).symm⟩
  ·exact .inr ⟨(hg.trans (Nat.max_eq_left h)).symm, (hk.trans (Nat.min_eq_right h)).symm⟩
 have hle : k ≤ g := by rw [hk, hg]; exact Nat.le_trans (Nat.min_le_left _ _) (Nat.le_max_left _ _)
 have hlt : k < g := Nat.lt_of_le_of_ne hle hne
 have h3 : Cl a.nodes P (find a.par x) (find a.par y) := ((I.sound x hx).symm.trans hc).trans (I.sound y hy)
 have H : a.par[k]? = some k ∧ a.par[g]? = some g ∧ g < a.nodes.length ∧ Cl a.nodes P g k := by
  rcases D with ⟨e1, e2⟩ | ⟨e1, e2⟩ <;> rw [e1] at fx lx h3 <;> rw [e2] at fy ly h3
  ·exact ⟨fx, fy, ly, h3.symm⟩
  ·exact ⟨fy, fx, lx, h3⟩
 clear hk hg lx ly fx fy h3
 obtain ⟨bk, bg, hgN, ckg⟩ := H
 have hkN := Nat.lt_trans hlt hgN
 have FS : ∀ u, u < a.nodes.length → find (a.par.set g k) u = if find a.par u = g then k else find a.par u := fun u hu => find_set I.up bk bg hlt u u (Nat.le_refl _) (by rw [I.len]; exact hu)
 obtain ⟨uk, ak⟩ := I.abR k bk
 obtain ⟨ug, ag⟩ := I.abR g bg
 have euk : a.us k = uk := A.us_eq ak
 have eug : a.us g = ug := A.us_eq ag
 have us' : ∀ c', ((a.setCh (a.ch ++ [c])).unite x y r k g).us c' = if c' = k then uk ++ ug else if c' = g then [] else a.us c' := by
  intro c'
  show (upd (upd a.ab g none) k (some (a.us k ++ a.us g)) c').getD [] = _
  rw [euk, eug]
  by_cases h1 : c' = k
  ·simp [upd, h1]
  ·by_cases h2 : c' = g
   ·subst h2; simp [upd, h1]
   ·simp [upd, h1, h2, A.us]
 have hroots : rootsN (a.par.set g k) a.nodes.length + 1 = rootsN a.par a.nodes.length := by
  unfold rootsN
  refine count_turn _ _ g (by simp [bg]) ?_ ?_ _ List.nodup_range (List.mem_range.mpr hgN)
  ·show ((a.par.set g k)[g]? == some g) = false
   rw [List.getElem?_set_self (by rw [I.len]; exact hgN)]
   simp [hne]
  ·intro z hz
   show ((a.par.set g k)[z]? == some z) = (a.par[z]? == some z)
   rw [List.getElem?_set_ne (fun e => hz e.symm)]
 have h2roots : 2 ≤ rootsN a.par a.nodes.length := by
  have : 0 < rootsN (a.par.set g k) a.nodes.length := by
   unfold rootsN
   rw [List.countP_pos_iff]
   refine ⟨k, List.mem_range.mpr hkN, ?_⟩
   rw [List.getElem?_set_ne (Nat.ne_of_gt hlt)]; simp [bk]
  rw [← hroots]; exact Nat.succ_le_succ this
 have hm3 := few_roots I.roots I.five h2roots
 have hml := len_snoc a.mrg (k, g)
 have hcl := len_snoc a.ch c
 have bug := I.usb g
 have buk := I.usb k
 rw [eug] at bug
 rw [euk] at buk
 have p1 : 2 ^ (a.mrg.length + 1 + 1) = 2 ^ (a.mrg.length + 1) * 2 := Nat.pow_succ ..
 have p2 : 2 ^ (a.mrg.length + 1) = 2 ^ a.mrg.length * 2 := Nat.pow_succ ..
 have p3 : 2 ^ (a.mrg.length + 1 + 1) ≤ 32 := Nat.pow_le_pow_right (n := 2) (j := 5) (by decide) (Nat.succ_le_succ (Nat.succ_le_succ hm3))
 have p4 : 2 ^ (a.mrg.length + 1) ≤ 2 ^ (a.mrg.length + 1 + 1) := Nat.pow_le_pow_right (n := 2) (by decide) (Nat.le_succ _)
 have hws : (a.ws ++ ug).length = a.ws.length + ug.length := List.length_append
 have ewsU : ((a.setCh (a.ch ++ [c])).unite x y r k g).ws = a.ws ++ ug := by show a.ws ++ a.us g = _; rw [eug]
 have hpot : pot ((a.setCh (a.ch ++ [c])).unite x y r k g) ≤ pot a := by
  unfold pot
  rw [ewsU]
  show (a.ws ++ ug).length + (32 - 2 ^ ((a.mrg ++ [(k, g)]).length + 1)) ≤ _
  rw [hws, hml]
  exact pot_le bug p1 p3
 have htot : total ((a.setCh (a.ch ++ [c])).unite x y r k g) ≤ total a + 1 := by
  rw [total_pot, total_pot a]
  exact Nat.le_trans (Nat.add_le_add_right hpot _) (Nat.le_of_eq (congrArg (pot a + ·) hcl))
 have hsig : ∀ n d, a.nodes[n]? = some d → n ∈ a.ws ++ ug ∨ sigOf (a.par.set g k) d = sigOf a.par d := by
  intro n d hn
  by_cases h : ∃ z ∈ d.2, find a.par z = g
  ·obtain ⟨z, hz, e⟩ := h
   have := I.use n d z hn hz
   rw [e, eug] at this
   exact .inl (List.mem_append_right _ this)
  ·refine .inr ?_
   unfold sigOf
   congr 1
   apply List.map_congr_left
   intro z hz
   have hzN := (I.kids d (List.mem_of_getElem? hn)).2 z hz
   rw [FS z hzN, if_neg (fun e => h ⟨z, hz, e⟩)]
 refine ⟨?_, htot, hpot, rfl, rfl, rfl, ?_, ?_, ?_, ?_⟩
 ·have hus : ∀ c', (((a.setCh (a.ch ++ [c])).unite x y r k g).us c').length ≤ 2 ^ (a.mrg.length + 1 + 1) := by
   intro c'
   rw [us']
   split
   ·rw [List.length_append, p1, Nat.mul_two]; exact Nat.add_le_add buk bug
   ·split
    ·exact Nat.zero_le _
    ·exact Nat.le_trans (I.usb c') p4
  have hlb : ∀ i, upd a.len k (a.len k + a.len g) i ≤ 2 ^ (a.mrg.length + 1) := by
   intro i
   unfold upd
   split
   ·rw [p2, Nat.mul_two]; exact Nat.add_le_add (I.lenb k) (I.lenb g)
   ·exact Nat.le_trans (I.lenb i) (Nat.pow_le_pow_right (n := 2) (by decide) (Nat.le_succ _))
  have hch := Nat.le_trans (Nat.le_of_eq hcl) (total_ch ht)
  refine {
   up := up_set I.up hle
   len := by show (a.par.set g k).length = _; rw [List.length_set]; exact I.len
   few := I.few
   kids := I.kids
   edges := ?_, forest := ?_, known := I.known, ws := ?_, ch := ?_, ab := ?_, lens := ?_, abR := ?_, kn := I.kn, made := I.made
   sound := ?_, kn1 := I.kn1, use := ?_, usN := ?_, wsN := ?_, five := I.five
   roots := ?_, usb := ?_, lenb := ?_, eb := ?_, fb := ?_, kb := ?_, pot := ?_, edp := ?_ }
  ·exact snoc_few _ _ I.eb hch
  ·exact snoc_few _ _ I.fb hch
  ·exact Nat.le_trans (Nat.le_add_right _ _) (Nat.le_trans hpot (Nat.le_trans (Nat.le_add_right _ a.ch.length) (Nat.le_trans (Nat.le_of_eq (total_pot a).symm) (Nat.le_trans (Nat.le_of_succ_le ht) (by decide)))))
  ·exact Nat.le_trans hch (by decide)
  ·intro c' us hus'
   have := hus c'
   rw [A.us_eq hus'] at this
   exact Nat.le_trans this (Nat.le_trans p3 (by decide))
  ·intro i
   exact Nat.le_trans (hlb i) (Nat.le_trans p4 (Nat.le_trans p3 (by decide)))
  ·intro c' hc'
   have hc' : (a.par.set g k)[c']? = some c' := hc'
   have hcg : c' ≠ g := by
    rintro rfl
    rw [List.getElem?_set_self (by rw [I.len]; exact hgN)] at hc'
    cases hc'; exact hne rfl
   rw [List.getElem?_set_ne (fun e => hcg e.symm)] at hc'
   obtain ⟨us, hu⟩ := I.abR c' hc'
   show ∃ us, upd (upd a.ab g none) k (some (a.us k ++ a.us g)) c' = some us
   by_cases h1 : c' = k
   ·exact ⟨_, by simp [upd, h1]; rfl⟩
   ·exact ⟨us, by simp [upd, h1, hcg, hu]⟩
  ·intro u hu
   show Cl a.nodes P u (find (a.par.set g k) u)
   rw [FS u hu]
   split
   ·rename_i e
    have := I.sound u hu
    rw [e] at this
    exact this.trans ckg
   ·exact I.sound u hu
  ·intro n d z hn hz
   have hzN := (I.kids d (List.mem_of_getElem? hn)).2 z hz
   have h0 := I.use n d z hn hz
   show n ∈ ((a.setCh (a.ch ++ [c])).unite x y r k g).us (find (a.par.set g k) z)
   rw [us', FS z hzN]
   by_cases h1 : find a.par z = g
   ·rw [if_pos h1, if_pos rfl]
    rw [h1, eug] at h0
    exact List.mem_append_right _ h0
   ·rw [if_neg h1]
    by_cases h2 : find a.par z = k
    ·rw [if_pos h2]
     rw [h2, euk] at h0
     exact List.mem_append_left _ h0
    ·rw [if_neg h2, if_neg h1]; exact h0
  ·intro c' n hn
   rw [us'] at hn
   show n < a.nodes.length
   split at hn
   ·rcases List.mem_append.mp hn with h | h
    ·exact I.usN k n (by rw [euk]; exact h)
    ·exact I.usN g n (by rw [eug]; exact h)
   ·split at hn
    ·cases hn
    ·exact I.usN c' n hn
  ·intro n hn
   show n < a.nodes.length
   rw [ewsU] at hn
   rcases List.mem_append.mp hn with h | h
   ·exact I.wsN n h
   ·exact I.usN g n (by rw [eug]; exact h)
  ·show rootsN (a.par.set g k) a.nodes.length + (a.mrg ++ [(k, g)]).length = a.nodes.length
   exact (congrArg _ hml).trans ((Nat.add_right_comm _ _ _).trans ((congrArg (· + a.mrg.length) hroots).trans I.roots))
  ·intro c'
   show _ ≤ 2 ^ ((a.mrg ++ [(k, g)]).length + 1)
   rw [hml]; exact hus c'
  ·intro i
   show upd a.len k (a.len k + a.len g) i ≤ 2 ^ (a.mrg ++ [(k, g)]).length
   rw [hml]
   exact hlb i
  ·exact snoc_le _ _ I.eb
  ·exact snoc_le _ _ I.fb
  ·exact le_snoc _ I.kb
  ·exact Nat.le_trans htot ht
  ·intro e h
   rcases List.mem_append.mp h with h | h
   ·exact I.edp e h
   ·rw [List.mem_singleton] at h
    subst h
    exact Bool.and_eq_true_iff.mpr ⟨hr, rfl⟩
 ·intro u v hu hv e
  show find (a.par.set g k) u = find (a.par.set g k) v
  rw [FS u hu, FS v hv, e]
 ·show find (a.par.set g k) x = find (a.par.set g k) y
  rw [FS x hx, FS y hy]
  rcases D with ⟨e1, e2⟩ | ⟨e1, e2⟩ <;> rw [e1, e2]
  ·rw [if_neg hne, if_pos rfl]
  ·rw [if_pos rfl, if_neg hne]
 ·intro n hn
  rw [ewsU]; exact List.mem_append_left _ hn
 ·intro n d hn
  rw [ewsU]; exact hsig n d hn
theorem join_inv {P : List (Nat × Nat)} {a : A} (I : Inv P a) {x y : Nat} (hx : x < a.nodes.length) (hy : y < a.nodes.length) (r : V) (hr : r.pureN 2 = true) (ht : total a + 1 ≤ 900) (hc : Cl a.nodes P x y) : JoinR P a (a.join x y r) x y := by
 unfold A.join A.joinK
 split
 ·exact same_inv I x y r _ hr ht (min_max ‹_›)
 ·rename_i h; exact unite_inv I hx hy r _ hr ht hc rfl rfl h
set_option tactic.hygienic true
set_option tactic.hygienic false
/-- within a level that began at b: P is what is told, T what is told and done -/
structure Lev (b : A) (P T : List (Nat × Nat)) (a : A) : Prop where
 inv : Inv P a
 done : Done a
 chain : ∃ j, Chain b j a
 nodes : a.nodes = b.nodes
 mks : a.mks = b.mks
 told : ∀ p ∈ T, find a.par p.1 = find a.par p.2
 inN : ∀ p ∈ T, p.1 < a.nodes.length ∧ p.2 < a.nodes.length
theorem mem_last {ws : List Nat} {x n : Nat} (h : ws.getLast? = some x) (hn : n ∈ ws) : n ∈ ws.dropLast ∨ n = x := by
 obtain ⟨l, rfl⟩ := List.getLast?_eq_some_iff.mp h
 rw [List.dropLast_concat]
 rcases List.mem_append.mp hn with h | h
 ·exact .inl h
 ·exact .inr (by simpa using h)
theorem Inv.drop {P : List (Nat × Nat)} {a : A} (I : Inv P a) : Inv P (a.setWs a.ws.dropLast) := by
 have h : a.ws.dropLast.length ≤ a.ws.length := by rw [List.length_dropLast]; exact Nat.sub_le _ _
 refine { I with ws := Nat.le_trans h I.ws, wsN := ?_, pot := Nat.le_trans (Nat.add_le_add_right (Nat.add_le_add_right h _) _) I.pot }
 intro n hn; exact I.wsN n (List.dropLast_subset _ hn)
theorem pot_drop {a : A} (h : a.ws.dropLast.length + 1 = a.ws.length) : pot (a.setWs a.ws.dropLast) + 1 = pot a := by
 show a.ws.dropLast.length + _ + 1 = _
 rw [Nat.add_right_comm, h]; rfl
theorem total_drop {a : A} (h : a.ws.dropLast.length + 1 = a.ws.length) : total (a.setWs a.ws.dropLast) + 1 = total a := by
 rw [total_pot, total_pot a, ← pot_drop h]
 exact Nat.add_right_comm _ _ _
theorem lookup_app {K : List (Nd × Nat)} {sg : Nd} {n : Nat} {t : Nd} {o : Nat} (h : K.lookup t = some o) : (K ++ [(sg, n)]).lookup t = some o := by
 rw [List.lookup_append, h]; rfl
theorem lookup_app2 {K : List (Nd × Nat)} {sg : Nd} {n : Nat} {t : Nd} {o : Nat} (h : (K ++ [(sg, n)]).lookup t = some o) : K.lookup t = some o ∨ (t = sg ∧ o = n) := by
 rw [List.lookup_append] at h
 cases hk : K.lookup t with
 | some o' => rw [hk] at h; exact .inl h
 | none =>
  rw [hk] at h
  simp only [Option.none_or, List.lookup_cons, List.lookup_nil] at h
  split at h
  ·rename_i q; cases h; exact .inr ⟨by simpa using q, rfl⟩
  ·cases h
theorem lookup_self {K : List (Nd × Nat)} {sg : Nd} {n : Nat} (h : K.lookup sg = none) : (K ++ [(sg, n)]).lookup sg = some n := by
 rw [List.lookup_append, h]
 simp
theorem lev_step {b a : A} {P T : List (Nat × Nat)} {x : Nat} {d : Nd} (L : Lev b P T a) (hx : a.ws.getLast? = some x) (hd : a.nodes[x]? = some d) : Lev b P T (a.step x d) ∧ pot (a.step x d) < pot a ∧ total (a.step x d) ≤ total a := by
 have I := L.inv
 have I1 := I.drop
 have hxN : x < a.nodes.length := (List.getElem?_eq_some_iff.mp hd).1
 have hne : a.ws ≠ [] := by rintro e; rw [e] at hx; cases hx
 have hpos : 0 < a.ws.length := List.length_pos_iff.mpr hne
 have hdl : a.ws.dropLast.length + 1 = a.ws.length := by rw [List.length_dropLast]; exact Nat.sub_add_cancel hpos
 have hm5 := pow5 (I.m4 (Nat.lt_of_le_of_lt (Nat.zero_le _) hxN))
 have htot := I.pot
 have hpre : (a.setWs a.ws.dropLast).pre x = a.setWs a.ws.dropLast := by
  unfold A.pre
  rw [if_neg]
  show ¬ x = a.made
  rw [I.made]; exact Nat.ne_of_lt hxN
 have hstep : a.step x d = (a.setWs a.ws.dropLast).look0 x (sigOf a.par d) := by
  unfold A.step A.look
  rw [hpre]; rfl
 obtain ⟨j, C⟩ := L.chain
 rw [hstep]
 unfold A.look0
 have hpot1 := pot_drop hdl
 have htot1 := total_drop hdl
 cases hk : a.known.lookup (sigOf a.par d) with
 | none =>
  have hk' : (a.setWs a.ws.dropLast).known.lookup (sigOf a.par d) = none := hk
  rw [hk']
  show Lev b P T (((a.setWs a.ws.dropLast).setCh (a.ch ++ [Ch.known (sigOf a.par d)])).setK (a.known ++ [(sigOf a.par d, x)])) ∧ _
  have hcl := len_snoc a.ch (Ch.known (sigOf a.par d))
  have hch := Nat.le_trans (Nat.le_of_eq hcl) (Nat.le_trans (total_ch (a := a.setWs a.ws.dropLast) (Nat.le_trans (Nat.le_of_eq htot1) htot)) (Nat.le_refl 900))
  have ht2 : total (((a.setWs a.ws.dropLast).setCh (a.ch ++ [Ch.known (sigOf a.par d)])).setK (a.known ++ [(sigOf a.par d, x)])) = total a := by
   rw [total_pot, ← htot1, total_pot]
   exact congrArg (pot (a.setWs a.ws.dropLast) + ·) hcl
  refine ⟨⟨?_, ?_, ⟨j + 1, Chain.known _ _ a.ws.dropLast C I.toOk hk⟩, L.nodes, L.mks, L.told, L.inN⟩, ?_, ?_⟩
  ·refine { I1 with known := ?_, ch := ?_, kn := ?_, kn1 := ?_, eb := ?_, fb := ?_, kb := ?_, pot := ?_ }
   ·exact snoc_few _ _ I.kb hch
   ·exact Nat.le_trans hch (by decide)
   ·intro sg o h
    rcases lookup_app2 h with h | ⟨_, rfl⟩
    ·exact I.kn sg o h
    ·exact hxN
   ·intro sg o h
    rcases lookup_app2 h with h | ⟨rfl, rfl⟩
    ·exact I.kn1 sg o h
    ·refine ⟨d, hd, rfl, by simp [sigOf], fun i u v hu hv => ?_⟩
     simp only [sigOf, List.getElem?_map, hu, Option.map_some, Option.some.injEq] at hv
     rw [← hv]
     exact I.sound u ((I.kids d (List.mem_of_getElem? hd)).2 u (List.mem_of_getElem? hu))
   ·exact le_snoc _ I.eb
   ·exact le_snoc _ I.fb
   ·exact snoc_le _ _ I.kb
   ·exact Nat.le_trans (Nat.le_of_eq ht2) htot
  ·intro n e hn
   by_cases h : n = x
   ·subst h
    have : e = d := by have hn : a.nodes[n]? = some e := hn; rw [hd] at hn; cases hn; rfl
    subst this
    exact .inr ⟨n, lookup_self hk, rfl⟩
   ·rcases L.done n e hn with h1 | ⟨o, h1, h2⟩
    ·rcases mem_last hx h1 with h3 | h3
     ·exact .inl h3
     ·exact absurd h3 h
    ·exact .inr ⟨o, lookup_app h1, h2⟩
  ·exact Nat.le_of_eq hpot1
  ·exact Nat.le_of_eq ht2
 | some o =>
  have hk' : (a.setWs a.ws.dropLast).known.lookup (sigOf a.par d) = some o := hk
  rw [hk']
  have hoN := I.kn _ _ hk
  show Lev b P T (if find a.par o = find a.par x then a.setWs a.ws.dropLast else (a.setWs a.ws.dropLast).join o x likeV) ∧ pot (if find a.par o = find a.par x then a.setWs a.ws.dropLast else (a.setWs a.ws.dropLast).join o x likeV) < _ ∧ total (if find a.par o = find a.par x then a.setWs a.ws.dropLast else (a.setWs a.ws.dropLast).join o x likeV) ≤ _
  split
  ·rename_i he
   refine ⟨⟨I1, ?_, ⟨j, C.ws _⟩, L.nodes, L.mks, L.told, L.inN⟩, Nat.le_of_eq hpot1, Nat.le_trans (Nat.le_succ _) (Nat.le_of_eq htot1)⟩
   intro n e hn
   by_cases h : n = x
   ·subst h
    have : e = d := by have hn : a.nodes[n]? = some e := hn; rw [hd] at hn; cases hn; rfl
    subst this
    exact .inr ⟨o, hk, he⟩
   ·rcases L.done n e hn with h1 | h1
    ·rcases mem_last hx h1 with h3 | h3
     ·exact .inl h3
     ·exact absurd h3 h
    ·exact .inr h1
  ·have hcl := sig_cl I hd hk
   have J := join_inv I1 (x := o) (y := x) hoN hxN likeV (by decide +kernel) (Nat.le_trans (Nat.le_of_eq htot1) htot) hcl
   refine ⟨⟨J.inv, ?_, ⟨j + 1, Chain.join o x likeV _ (C.ws a.ws.dropLast) I1.toOk hoN hxN⟩, J.nodes.trans L.nodes, J.mks.trans L.mks, ?_, ?_⟩, ?_, ?_⟩
   ·intro n e hn
    rw [J.nodes] at hn
    have hn : a.nodes[n]? = some e := hn
    rcases J.sig n e hn with h1 | h1
    ·exact .inl h1
    ·rw [h1, J.known]
     have hnN : n < a.nodes.length := (List.getElem?_eq_some_iff.mp hn).1
     by_cases h : n = x
     ·subst h
      have : e = d := by rw [hd] at hn; cases hn; rfl
      subst this
      exact .inr ⟨o, hk, J.one⟩
     ·rcases L.done n e hn with h2 | ⟨o', h2, h3⟩
      ·rcases mem_last hx h2 with h4 | h4
       ·exact .inl (J.ws n h4)
       ·exact absurd h4 h
      ·exact .inr ⟨o', h2, J.keep o' n (I.kn _ _ h2) hnN h3⟩
   ·intro p hp
    have := L.inN p hp
    exact J.keep p.1 p.2 this.1 this.2 (L.told p hp)
   ·intro p hp; rw [J.nodes]; exact L.inN p hp
   ·exact Nat.lt_of_le_of_lt J.pt (Nat.le_of_eq hpot1)
   ·exact Nat.le_trans J.tot (Nat.le_of_eq htot1)
theorem lev_merge {b a : A} {P T : List (Nat × Nat)} {x y : Nat} {r : V} (L : Lev b P T a) (hp : (x, y) ∈ P) (hx : x < a.nodes.length) (hy : y < a.nodes.length) (hr : r.pureN 2 = true) (ht : total a + 1 ≤ 900) :
  Lev b P ((x, y) :: T) (a.join x y r) ∧ pot (a.join x y r) ≤ pot a ∧ total (a.join x y r) ≤ total a + 1 := by
 have I := L.inv
 have J := join_inv I hx hy r hr ht (.told hp)
 obtain ⟨j, C⟩ := L.chain
 refine ⟨⟨J.inv, ?_, ⟨j + 1, Chain.join x y r _ C I.toOk hx hy⟩, J.nodes.trans L.nodes, J.mks.trans L.mks, ?_, ?_⟩, J.pt, J.tot⟩
 ·intro n e hn
  rw [J.nodes] at hn
  rcases J.sig n e hn with h1 | h1
  ·exact .inl h1
  ·rw [h1, J.known]
   have hnN : n < a.nodes.length := (List.getElem?_eq_some_iff.mp hn).1
   rcases L.done n e hn with h2 | ⟨o', h2, h3⟩
   ·exact .inl (J.ws n h2)
   ·exact .inr ⟨o', h2, J.keep o' n (I.kn _ _ h2) hnN h3⟩
 ·intro p hp
  rcases List.mem_cons.mp hp with rfl | hp
  ·exact J.one
  ·have := L.inN p hp
   exact J.keep p.1 p.2 this.1 this.2 (L.told p hp)
 ·intro p hp
  rw [J.nodes]
  rcases List.mem_cons.mp hp with rfl | hp
  ·exact ⟨hx, hy⟩
  ·exact L.inN p hp
/-- settled and all told: the classes are the least likeness -/
theorem settled {a : A} {P : List (Nat × Nat)} (I : Inv P a) (D : Done a) (hw : a.ws = []) (ht : ∀ p ∈ P, find a.par p.1 = find a.par p.2) {x y : Nat} (hx : x < a.nodes.length) (hy : y < a.nodes.length) : find a.par x = find a.par y ↔ Cl a.nodes P x y := by
 constructor
 ·intro h
  have h1 := I.sound x hx
  have h2 := I.sound y hy
  rw [h] at h1
  exact h1.trans h2.symm
 ·intro h
  refine Cl.least (R := fun x y => find a.par x = find a.par y) (fun _ => rfl) (fun _ _ h => h.symm) (fun _ _ _ h g => h.trans g) (fun x y m => ht (x, y) m) (fun x y d e hx hy h1 h2 h3 => ?_) h
  have hs : sigOf a.par d = sigOf a.par e := by
   unfold sigOf
   rw [h1]
   congr 1
   apply List.ext_getElem?
   intro i
   rw [List.getElem?_map, List.getElem?_map]
   cases hu : d.2[i]? with
   | none =>
    have : e.2[i]? = none := by
     rw [List.getElem?_eq_none_iff] at hu ⊢; rw [← h2]; exact hu
    rw [this]
   | some u =>
    have hi : i < e.2.length := by rw [← h2]; exact (List.getElem?_eq_some_iff.mp hu).1
    rw [List.getElem?_eq_getElem hi]
    simp only [Option.map_some, Option.some.injEq]
    exact h3 i u _ hu (List.getElem?_eq_getElem hi)
  rcases D x d hx with h4 | ⟨o, h4, h5⟩
  ·rw [hw] at h4; cases h4
  ·rcases D y e hy with h6 | ⟨o', h6, h7⟩
   ·rw [hw] at h6; cases h6
   ·rw [hs, h6] at h4; cases h4
    exact h5.symm.trans h7
set_option tactic.hygienic true
set_option tactic.hygienic false
theorem and_refl : (BoolOp.And == BoolOp.And) = true := rfl
theorem okRng_small {lo hi : Int} (h1 : -100000 ≤ lo) (h2 : lo ≤ 100000) (h3 : -100000 ≤ hi) (h4 : hi ≤ 100000) : okRng lo hi = true := by
 have e1 : (-(2 ^ 62) : Int) < -100000 := by decide
 have e2 : (100000 : Int) < 2 ^ 62 := by decide
 have e3 : (hi - lo).toNat < 2 ^ 20 := by
  have : (2 : Nat) ^ 20 = 1048576 := by decide
  lia
 simp only [okRng, small, limit, Bool.and_eq_true, decide_eq_true_eq]
 exact ⟨⟨⟨Int.lt_of_lt_of_le e1 h1, Int.lt_of_le_of_lt h2 e2⟩, Int.lt_of_lt_of_le e1 h3, Int.lt_of_le_of_lt h4 e2⟩, decide_eq_true e3⟩
/-- [n for pair in pairs for n in pair] -/
theorem w_flat {n : Nat} {t1 t2 : Str} {p1 p2 p3 p4 : Pos} {it : Expr} {h : Here} {cap : Loc} {μ : Mem} {S : List V → Loc → Mem → Prop} (xs : List (Nat × Nat)) (h1 : isOwn h.sc t1 = true) (h2 : isOwn h.sc t2 = true) (h3 : isLoc h.sc t1 = true) (h4 : isLoc h.sc t2 = true) (hl : xs.length ≤ 64)
  (q : ∀ ρ, S (xs.flatMap fun p => [nv p.1, nv p.2]) ρ μ) : W3 (cmpL n (.Name t2 p4) ⟨.Name t1 p1, it, [], 0⟩ [⟨.Name t2 p2, .Name t1 p3, [], 0⟩] (.vals (xs.map prV)) 0 h cap [] μ) S := by
 refine w_cmp2 (xs.map prV) rfl (fun i acc ρ μ' => μ' = μ ∧ acc = (xs.take i).flatMap fun p => [nv p.1, nv p.2]) (fun i acc ρ μ' _ _ => at_vals) ?_ ?_ ⟨rfl, rfl⟩
 ·rintro i v acc ρ μ' hv ⟨rfl, rfl⟩
  rw [List.getElem?_map] at hv
  obtain ⟨p, hp, rfl⟩ := Option.map_eq_some_iff.mp hv
  have hacc : ((xs.take i).flatMap fun p => [nv p.1, nv p.2]).length ≤ 128 := by
   have : ∀ l : List (Nat × Nat), (l.flatMap fun p => [nv p.1, nv p.2]).length = 2 * l.length := by
    intro l
    induction l with
    | nil => rfl
    | cons a r ih => rw [List.flatMap_cons, List.length_append, ih]; simp; exact Nat.add_comm _ _
   rw [this]
   exact Nat.mul_le_mul_left 2 (Nat.le_trans (List.length_take_le' i xs) hl)
  refine w_sname h1 (w_ifs0 ?_)
  show W2 (src n _ _ _ _) _
  refine w_src (w_name h3 (lk_put _ _ _) (w_sofT ?_))
  refine w_cmp [nv p.1, nv p.2] rfl (fun k acc ρ' μ'' => μ'' = μ' ∧ acc = ((xs.take i).flatMap fun p => [nv p.1, nv p.2]) ++ [nv p.1, nv p.2].take k) (fun k acc ρ' μ'' _ _ => at_vals) ?_ ?_ ⟨rfl, (List.append_nil _).symm⟩
  ·rintro k v acc ρ' μ'' hv ⟨rfl, rfl⟩
   refine w_sname h2 (w_ifs0 (show W2 (ev n _ _ _ _) _ from w_name h4 (lk_put _ _ _) ⟨?_, rfl, ?_⟩))
   ·rw [List.length_append]
    exact Nat.lt_of_le_of_lt (Nat.add_le_add hacc (List.length_take_le' k _)) (by decide : 128 + 2 < limit)
   ·rw [List.take_add_one, hv, List.append_assoc]; rfl
  ·rintro acc ρ' μ'' ⟨rfl, rfl⟩
   refine ⟨rfl, ?_⟩
   rw [List.take_add_one, hp]; simp
 ·rintro acc ρ μ' ⟨rfl, rfl⟩
  rw [List.length_map, List.take_length]
  exact q ρ
/-- a thing that stays -/
noncomputable def Fz (s : St) (j : Nat) (o : O) : Prop := s.tail[j]? = some o ∧ j ∉ s.lots ∧ s.wa ≠ some j
theorem Fz.fr {s s' : St} {j : Nat} {o : O} (f : Fr s s') (h : Fz s j o) : Fz s' j o := by
 obtain ⟨h1, h2, h3⟩ := h
 have hl := (List.getElem?_eq_some_iff.mp h1).1
 refine ⟨by rw [f.keep j hl h2 h3]; exact h1, by rw [f.lots]; exact h2, ?_⟩
 rcases f.wa with e | ⟨j', e, h⟩
 ·rw [e]; exact h3
 ·rw [e]; intro q; cases q; exact absurd (by assumption) (Nat.not_le_of_lt (by assumption))
theorem Fz.new {s : St} {a : A} (R : Rep s a) (o : O) : Fz (s.push o) s.tail.length o := by
 refine ⟨by show (s.tail ++ [o])[s.tail.length]? = _; simp, fun h => ?_, fun h => ?_⟩
 ·have := R.lotsB _ h; have := R.bnd; exact absurd (by assumption) (Nat.not_le_of_lt (by assumption))
 ·have := R.len_wa h; exact absurd (by assumption) (Nat.lt_irrefl _)
section
variable {s : St} {a : A} {Q : V → Mem → Prop}
theorem hlike (S : Shp a) (n : Nat) {x y : Nat} (hx : x < a.nodes.length) (hy : y < a.nodes.length) (q : Q (.bool (decide (find a.par x = find a.par y))) (mem s a)) : W2 (callD (n + 80) "Heap" (nthM 10 7) [.ref 1, nv x, nv y] (mem s a)) Q := by
 conv => arg 1; arg 3; whnf
 walk_at "w"
 refine w_methI rfl rfl mo_Levels_find ?_
 walk_at "w"
 refine hfind S _ _ hx ?_
 walk_at "w"
 refine w_methI rfl rfl mo_Levels_find ?_
 walk_at "w"
 refine hfind S _ _ hy ?_
 walk_at "w"
 have e : decide (((find a.par x : Nat) : Int) = find a.par y) = decide (find a.par x = find a.par y) := by
  rw [decide_eq_decide]; lia
 rw [e]; exact q
theorem uclasses (S : Shp a) (n : Nat) (q : Q (.lst (((List.range a.par.length).filter fun c => a.par[c]? == some c).map nv)) (mem s a)) : W2 (callD (n + 60) "Unions" (nthM 8 6) [.ref 7] (mem s a)) Q := by
 conv => arg 1; arg 3; whnf
 have h8 : a.par.length ≤ 8 := by rw [S.len]; exact S.few
 walk_at "w"
 refine w_comp rfl (w_src ?_)
 walk_at "w"
 refine w_bltn rfl (w_len (xs := a.par.map nv) rfl (by rw [List.length_map]; exact lim8 h8) ?_)
 walk_at "w"
 refine w_bltn rfl (w_rng1 ?_)
 have hr : rngItems 0 ((a.par.map nv).length : Nat) = (List.range a.par.length).map nv := by
  unfold rngItems
  rw [List.length_map]
  simp
 have ho : okRng 0 (((a.par.map nv).length : Nat) : Int) = true := by
  rw [List.length_map]
  exact okRng_small (by solve_by_elim (maxDepth := 4) only [*, Int.natCast_nonneg, Int.le_trans, Int.lt_of_lt_of_le, Int.lt_of_le_of_lt, Int.le_of_lt, Int.not_lt_of_ge, Int.not_le_of_gt]) (by exact Int.natCast_nonneg _) (by solve_by_elim (maxDepth := 4) only [*, Int.natCast_nonneg, Int.le_trans, Int.lt_of_lt_of_le, Int.lt_of_le_of_lt, Int.le_of_lt, Int.not_lt_of_ge, Int.not_le_of_gt]) (by lia)
 refine w_sofG ho ?_
 rw [hr]
 refine w_filt _ (fun v => v) (fun v => match v with | .int i => a.par[i.toNat]? == some i.toNat | _ => false) rfl (by simp; exact Nat.le_trans (by assumption) (Nat.le_add_left _ _)) ?_ ?_ (fun ρ => ?_)
 ·intro v hv
  obtain ⟨c, hc, rfl⟩ := List.mem_map.mp hv
  have hc := List.mem_range.mp hc
  walk_at "w"
  refine w_idxL (listOf_ref rfl) (getI_map (f := nv) (List.getElem?_eq_getElem hc) h8) ?_
  walk_at "w"
  have e : decide (((a.par[c] : Nat) : Int) = c) = (a.par[c]? == some c) := by
   rw [List.getElem?_eq_getElem hc]
   rw [Bool.eq_iff_iff]; simp; lia
  rw [e]
  show if (a.par[c]? == some c) = true then _ else _
  by_cases h : (a.par[c]? == some c) = true
  ·rw [if_pos h]
   walk_at "w"
   exact ⟨h.symm, rfl⟩
  ·rw [if_neg h]
   exact ⟨by simpa using h, rfl⟩
 ·intro v hv hg
  walk_at "w"
  exact ⟨rfl, rfl⟩
 ·rw [List.filter_map, List.map_id']
  walk_at "w"
  exact q
theorem hclasses (S : Shp a) (n : Nat) (q : Q (.lst (((List.range a.par.length).filter fun c => a.par[c]? == some c).map nv)) (mem s a)) : W2 (callD (n + 70) "Heap" (nthM 10 12) [.ref 1] (mem s a)) Q := by
 conv => arg 1; arg 3; whnf
 walk_at "w"
 refine w_methI rfl rfl mo_Unions_classes ?_
 walk_at "w"
 refine uclasses S _ ?_
 walk_at "w"
 exact q
theorem hdepth (R : Rep s a) (h : a.mks.length ≤ 10) (n : Nat) (q : Q (nv a.mks.length) (mem s a)) : W2 (callD (n + 30) "Levels" (nthM 12 1) [.ref 1] (mem s a)) Q := by
 have hl := R.mrk.length
 conv => arg 1; arg 3; whnf
 walk_at "w"
 refine w_bltn rfl (w_len (xs := s.marks) rfl (by unfold limit; lia) ?_)
 walk_at "w"
 rw [hl]; exact q
end
set_option tactic.hygienic true
set_option tactic.hygienic false
noncomputable def triO : O := .inst "Trial" [("heap", .ref 1)]
noncomputable def trialV : V := .tup [.str "told", .str "trial"]
/-- a heap at rest: settled, no level open, the told pairs done -/
structure Rest (T : List (Nat × Nat)) (b : A) : Prop where
 inv : Inv T b
 done : Done b
 ws : b.ws = []
 mks : b.mks = []
 told : ∀ p ∈ T, find b.par p.1 = find b.par p.2
 inN : ∀ p ∈ T, p.1 < b.nodes.length ∧ p.2 < b.nodes.length
 room : total b ≤ 800
theorem Inv.more {P P' : List (Nat × Nat)} {a : A} (I : Inv P a) (h : ∀ p ∈ P, p ∈ P') : Inv P' a :=
 { I with
  sound := fun x hx => (I.sound x hx).mono h
  kn1 := fun sg o hk => let ⟨d, h1, h2, h3, h4⟩ := I.kn1 sg o hk; ⟨d, h1, h2, h3, fun i u v hu hv => (h4 i u v hu hv).mono h⟩ }
theorem Inv.setMk {P : List (Nat × Nat)} {a : A} (I : Inv P a) (m : List (Nat × List Nat × Nat)) : Inv P (a.setMk m) := { I with }
theorem flat_len (l : List (Nat × Nat)) : (l.flatMap fun p => [nv p.1, nv p.2]).length = 2 * l.length := by
 induction l with
 | nil => rfl
 | cons a r ih => rw [List.flatMap_cons, List.length_append, ih]; simp; exact Nat.add_comm _ _
section
variable {s : St} {b : A} {Q : V → Mem → Prop} {T : List (Nat × Nat)}
inductive Iv31 (s : St) (b : A) (ps T : List (Nat × Nat)) (tr : Nat) (v0 : V) (ρ : Loc) (μ : Mem) : Prop
 | mk (s' : St) (a' : A) (T' : List (Nat × Nat)) (_ : μ = mem s' a') (_ : Fr s s') (_ : Rep s' a') (_ : (∀ p ∈ ps ++ T, p ∈ T')) (_ : Lev (b.push s.tail.length) (ps ++ T) T' a') (_ : total a' ≤ total b + ps.length) (_ : pot a' ≤ 32) (_ : ∃ u v, ρ = put (put (put (put (put ([] : Loc) ("self" : Str) (.ref (tr + 20))) ("pairs" : Str) (.lst (ps.map prV))) ("n" : Str) v0) ("a" : Str) u) ("b" : Str) v) : Iv31 s b ps T tr v0 ρ μ
inductive Iv32 (s : St) (b : A) (ps T : List (Nat × Nat)) (tr : Nat) (v0 : V) (i : Nat) (ρ : Loc) (μ : Mem) : Prop
 | mk (s' : St) (a' : A) (T' : List (Nat × Nat)) (_ : μ = mem s' a') (_ : Fr s s') (_ : Rep s' a') (_ : (∀ p ∈ ps.take i ++ T, p ∈ T')) (_ : Lev (b.push s.tail.length) (ps ++ T) T' a') (_ : total a' ≤ total b + i) (_ : pot a' ≤ 32) (_ : ((i = 0 ∧ ρ = put (put (put ([] : Loc) ("self" : Str) (.ref (tr + 20))) ("pairs" : Str) (.lst (ps.map prV))) ("n" : Str) v0) ∨ ∃ u v, ρ = put (put (put (put (put ([] : Loc) ("self" : Str) (.ref (tr + 20))) ("pairs" : Str) (.lst (ps.map prV))) ("n" : Str) v0) ("a" : Str) u) ("b" : Str) v)) : Iv32 s b ps T tr v0 i ρ μ
theorem htried {tr : Nat} (B : Rest T b) (R : Rep s b) (Z : Fz s tr triO) (n : Nat) (ps : List (Nat × Nat)) (hps : ∀ p ∈ ps, p.1 < b.nodes.length ∧ p.2 < b.nodes.length) (hl : ps.length ≤ 20) (h1 : 0 < ps.length)
  (q : ∀ v s' a', Fr s s' → Rep s' a' → Lev (b.push s.tail.length) (ps ++ T) (ps ++ T) a' → a'.ws = [] → total a' ≤ total b + 20 → Q v (mem s' a')) : W2 (callD (n + 420) "Trial" (nthM 13 1) [.ref (tr + 20), .lst (ps.map prV)] (mem s b)) Q := by
 have hN := B.inv.five
 conv => arg 1; arg 3; whnf
 walk_at "e"
 walk_at "e"
 refine ex_mono (Q := fun fl ρ μ => fl = Fl.next ∧ μ = mem s b ∧ ∃ v, ρ = put (put (put ([] : Loc) ("self" : Str) (.ref (tr + 20))) ("pairs" : Str) (.lst (ps.map prV))) ("n" : Str) v) ?_ ?_
 ·walk_at "e"
  refine w_src ?_
  refine w_comp rfl (w_src ?_)
  walk_at "w"
  refine w_sofL ?_
  refine w_flat ps rfl rfl rfl rfl (by exact Nat.le_trans (by assumption) (Nat.le_add_left _ _)) ?_
  intro ρ
  refine w_sofL ?_
  have hfl := flat_len ps
  refine w_fr (ps.flatMap fun p => [nv p.1, nv p.2]) rfl (fun i ρ μ => μ = mem s b ∧ ((i = 0 ∧ ρ = put (put ([] : Loc) ("self" : Str) (.ref (tr + 20))) ("pairs" : Str) (.lst (ps.map prV))) ∨ ∃ v, ρ = put (put (put ([] : Loc) ("self" : Str) (.ref (tr + 20))) ("pairs" : Str) (.lst (ps.map prV))) ("n" : Str) v)) (fun i ρ μ _ _ => at_vals) ?_ ?_ ⟨rfl, .inl ⟨rfl, rfl⟩⟩
  ·rintro i v ρ μ hv ⟨rfl, hρ⟩
   have hmem := List.mem_of_getElem? hv
   rw [List.mem_flatMap] at hmem
   obtain ⟨p, hp, hvp⟩ := hmem
   obtain ⟨x, rfl, hx⟩ : ∃ x, v = nv x ∧ x < b.nodes.length := by
    simp only [List.mem_cons, List.not_mem_nil, or_false] at hvp
    rcases hvp with rfl | rfl
    ·exact ⟨_, rfl, (hps p hp).1⟩
    ·exact ⟨_, rfl, (hps p hp).2⟩
   refine w_sname rfl ?_
   have e : put ρ ("n" : Str) (nv x) = put (put (put ([] : Loc) ("self" : Str) (.ref (tr + 20))) ("pairs" : Str) (.lst (ps.map prV))) ("n" : Str) (nv x) := by
    rcases hρ with ⟨_, rfl⟩ | ⟨v, rfl⟩
    ·rfl
    ·exact put_put _ _ _ _
   rw [show (Src.vals (ps.flatMap fun p => [nv p.1, nv p.2])).wrap i (nv x) = nv x from rfl, e]
   walk_at "w"
   have h0 : (0 : Int) ≤ (x : Int) := by exact Int.natCast_nonneg _
   refine iD h0 ?_
   walk_at "w"
   refine w_attrV (fs := [("heap", .ref 1)]) (C := "Trial") (w := .ref 1) (by rw [tail_get]; exact Z.1) rfl rfl ?_
   refine w_methI rfl rfl mo_Levels_size ?_
   walk_at "w"
   refine hsize B.inv.toShp _ ?_
   walk_at "w"
   have h2 : (x : Int) < (b.nodes.length : Nat) := by exact_mod_cast hx
   refine iJ h2 ?_
   walk_at "w"
   exact .inl ⟨rfl, rfl, .inr ⟨_, rfl⟩⟩
  ·rintro ρ μ ⟨rfl, hρ⟩
   rcases hρ with ⟨h, _⟩ | ⟨v, rfl⟩
   ·rw [hfl] at h; lia
   ·exact ⟨rfl, rfl, v, rfl⟩
 ·rintro _ _ _ ⟨rfl, rfl, v0, rfl⟩
  walk_at "w"
  refine w_attrV (fs := [("heap", .ref 1)]) (C := "Trial") (w := .ref 1) (by rw [tail_get]; exact Z.1) rfl rfl ?_
  refine w_methI rfl rfl mo_Levels_push ?_
  walk_at "w"
  refine hpush R B.inv.toOk _ B.mks ?_
  intro v s1 F1 R1
  have Z1 := Z.fr F1
  have hm5 := pow5 (B.inv.m4 (by have := (hps _ (List.head_mem (List.length_pos_iff.mp h1))).1; exact Nat.lt_of_le_of_lt (Nat.le_add_left _ _) (by assumption)))
  have hb1 : Lev (b.push s.tail.length) (ps ++ T) T (b.push s.tail.length) :=
   ⟨(B.inv.more fun p hp => List.mem_append_right _ hp).setMk _, B.done, ⟨0, Chain.refl (b := b.push s.tail.length) b.ws⟩, rfl, rfl, B.told, B.inN⟩
  have hpot : pot (b.push s.tail.length) ≤ 32 := by
   unfold pot
   show b.ws.length + (32 - 2 ^ (b.mrg.length + 1)) ≤ 32
   rw [B.ws]; simp
  have htot : total (b.push s.tail.length) = total b := rfl
  have hroom := B.room
  walk_at "e"
  walk_at "e"
  refine ex_mono (Q := fun fl ρ μ => fl = Fl.next ∧ Iv31 s b ps T tr v0 ρ μ) ?_ ?_
  ·walk_at "e"
   refine w_src ?_
   walk_at "w"
   refine w_sofL ?_
   refine w_fr (ps.map prV) rfl (Iv32 s b ps T tr v0) (fun i ρ μ _ _ => at_vals) ?_ ?_
     ⟨s1, _, T, rfl, F1, R1, fun p hp => by simpa using hp, hb1, by solve_by_elim (maxDepth := 4) only [*, Nat.add_le_add, Nat.mul_le_mul, Nat.le_refl, Nat.succ_le_succ, Nat.le_trans, Nat.le_of_lt, Nat.pos_of_ne_zero, Nat.sub_le, Nat.le_sub_of_add_le], hpot, .inl ⟨rfl, rfl⟩⟩
   ·rintro i v ρ μ hv ⟨s2, a2, T2, rfl, F2, R2, hT2, L2, ht2, hp2, hρ⟩
    rw [List.getElem?_map] at hv
    obtain ⟨p, hp, rfl⟩ := Option.map_eq_some_iff.mp hv
    have hpm := List.mem_of_getElem? hp
    have hi : i < ps.length := (List.getElem?_eq_some_iff.mp hp).1
    have hN2 : a2.nodes = b.nodes := L2.nodes
    refine w_stuple rfl (w_itT (w_sl rfl ?_))
    refine w_scons (w_sname rfl (w_scons (w_sname rfl (w_snil ?_))))
    have e : put (put ρ ("a" : Str) (nv p.1)) ("b" : Str) (nv p.2) = put (put (put (put (put ([] : Loc) ("self" : Str) (.ref (tr + 20))) ("pairs" : Str) (.lst (ps.map prV))) ("n" : Str) v0) ("a" : Str) (nv p.1)) ("b" : Str) (nv p.2) := by
     rcases hρ with ⟨_, rfl⟩ | ⟨u, v, rfl⟩
     ·rfl
     ·rfl
    rw [e]
    have Z2 := Z.fr F2
    walk_at "w"
    refine w_attrV (fs := [("heap", .ref 1)]) (C := "Trial") (w := .ref 1) (by rw [tail_get]; exact Z2.1) rfl rfl ?_
    refine w_methI rfl rfl mo_Levels_merge ?_
    walk_at "w"
    have hx : p.1 < a2.nodes.length := by rw [hN2]; exact (hps p hpm).1
    have hy : p.2 < a2.nodes.length := by rw [hN2]; exact (hps p hpm).2
    have hch : a2.ch.length + 1 ≤ 2000 := by have := L2.inv.pot; lia
    have LM := lev_merge L2 (x := p.1) (y := p.2) (r := trialV) (List.mem_append_left _ hpm) hx hy (by decide +kernel) (by lia)
    refine hmerge R2 L2.inv.toOk _ hx hy hch ?_
    intro v s3 F3 R3
    walk_at "w"
    refine .inl ⟨rfl, s3, _, p :: T2, rfl, F2.trans F3, R3, ?_, LM.1, Nat.le_trans LM.2.2 (by exact Nat.succ_le_succ (by assumption)), Nat.le_trans LM.2.1 hp2, .inr ⟨_, _, rfl⟩⟩
    intro z hz
    rw [List.take_add_one, hp] at hz
    simp only [Option.toList_some, List.append_assoc, List.mem_append, List.mem_singleton] at hz
    rcases hz with h | h | h
    ·exact List.mem_cons_of_mem _ (hT2 z (List.mem_append_left _ h))
    ·rw [h]; exact List.mem_cons_self
    ·exact List.mem_cons_of_mem _ (hT2 z (List.mem_append_right _ h))
   ·rintro ρ μ ⟨s2, a2, T2, rfl, F2, R2, hT2, L2, ht2, hp2, hρ⟩
    rw [List.length_map] at ht2 hT2 hρ
    rw [List.take_length] at hT2
    rcases hρ with ⟨h, _⟩ | ⟨u, v, rfl⟩
    ·solve_by_elim (maxDepth := 4) only [*, Nat.le_of_lt, Nat.lt_of_lt_of_le, Nat.lt_of_le_of_lt, Nat.lt_trans, Nat.le_trans, Nat.ne_of_lt, Nat.ne_of_gt]
    ·exact ⟨rfl, s2, a2, T2, rfl, F2, R2, hT2, L2, ht2, hp2, u, v, rfl⟩
  ·rintro _ _ _ ⟨rfl, s2, a2, T2, rfl, F2, R2, hT2, L2, ht2, hp2, u, v, rfl⟩
   have Z2 := Z.fr F2
   walk_at "w"
   refine w_attrV (fs := [("heap", .ref 1)]) (C := "Trial") (w := .ref 1) (by rw [tail_get]; exact Z2.1) rfl rfl ?_
   refine w_methI rfl rfl mo_Levels_settle ?_
   walk_at "w"
   refine hsettle (fun a' => Lev (b.push s.tail.length) (ps ++ T) (ps ++ T) a' ∧ total a' ≤ total b + 20) pot ?_ ?_ R2 ?_ (by exact Nat.le_trans (by assumption) (Nat.le_add_left _ _)) _ ?_
   ·rintro a' ⟨L, ht⟩
    exact ⟨L.inv.toOk, by have := L.inv.pot; lia, L.inv.wsN⟩
   ·rintro a' x d ⟨L, ht⟩ hx hd
    have := lev_step L hx hd
    exact ⟨⟨this.1, by lia⟩, this.2.1⟩
   ·exact ⟨⟨L2.inv, L2.done, L2.chain, L2.nodes, L2.mks, fun p hp => L2.told p (hT2 p hp), fun p hp => L2.inN p (hT2 p hp)⟩, by lia⟩
   ·intro v3 s3 a3 F3 R3 J3 hw3
    walk_at "w"
    exact q _ s3 a3 (F2.trans F3) R3 J3.1 hw3 J3.2
end
set_option tactic.hygienic true
set_option tactic.hygienic false
noncomputable def likeB (N : List Nd) (P : List (Nat × Nat)) (x y : Nat) : Bool := @decide (Cl N P x y) (Classical.propDecidable _)
theorem likeB_iff {N : List Nd} {P : List (Nat × Nat)} {x y : Nat} : likeB N P x y = true ↔ Cl N P x y := by unfold likeB; exact @decide_eq_true_iff _ (Classical.propDecidable _)
theorem Cl.skip {N : List Nd} {ps T : List (Nat × Nat)} {u v x y : Nat} (h : Cl N ((ps ++ [(u, u), (v, v)]) ++ T) x y) : Cl N (ps ++ T) x y := by
 refine Cl.least (R := Cl N (ps ++ T)) .refl (fun _ _ h => h.symm) (fun _ _ _ h g => h.trans g) (fun a b m => ?_) (fun _ _ _ _ h1 h2 h3 h4 h5 => .cong h1 h2 h3 h4 h5) h
 simp only [List.mem_append, List.mem_cons, List.not_mem_nil, or_false, Prod.mk.injEq] at m
 rcases m with (m | ⟨rfl, rfl⟩ | ⟨rfl, rfl⟩) | m
 ·exact .told (List.mem_append_left _ m)
 ·exact .refl _
 ·exact .refl _
 ·exact .told (List.mem_append_right _ m)
section
variable {s : St} {b : A} {Q : V → Mem → Prop} {T : List (Nat × Nat)}
theorem rest_back {b : A} (h : b.mks = []) (lo : Nat) : (((b.push lo).setMk []).setWs b.ws) = b := by
 cases b with | mk nodes par len mrg edges forest known ab ws ch mks made => simp only at h; subst h; rfl
theorem hwould {tr : Nat} (B : Rest T b) (R : Rep s b) (Z : Fz s tr triO) (n : Nat) (ps : List (Nat × Nat)) (hps : ∀ p ∈ ps, p.1 < b.nodes.length ∧ p.2 < b.nodes.length) (hl : ps.length ≤ 15) {x y : Nat} (hx : x < b.nodes.length) (hy : y < b.nodes.length)
  (q : ∀ s', Fr s s' → Rep s' b → Q (.bool (likeB b.nodes (ps ++ T) x y)) (mem s' b)) : W2 (callD (n + 450) "Trial" (nthM 13 2) [.ref (tr + 20), .lst (ps.map prV), nv x, nv y] (mem s b)) Q := by
 conv => arg 1; arg 3; whnf
 walk_at "w"
 refine w_methI (fs := [("heap", .ref 1)]) (C := "Trial") (by rw [tail_get]; exact Z.1) rfl mo_Trial_tried ?_
 walk_at "w"
 have hll : (ps.map prV).length < limit := by rw [List.length_map]; unfold limit; exact Nat.lt_of_le_of_lt (by assumption) (by decide)
 refine w_bltn rfl (w_listL (xs := ps.map prV) rfl hll ?_)
 rw [mem_push]
 walk_at "w"
 rw [mem_push, mem_len, mem_len]
 have R1 := R.push (.lst (ps.map prV))
 have R2 := R1.push (.lst [.tup [nv x, nv x], .tup [nv y, nv y]])
 have F2 : Fr s ((s.push (.lst (ps.map prV))).push (.lst [.tup [nv x, nv x], .tup [nv y, nv y]])) := (Fr.push _ _).trans (Fr.push _ _)
 have Z2 := Z.fr F2
 have g1 := (Fz.new R (.lst (ps.map prV))).fr (Fr.push _ (.lst [.tup [nv x, nv x], .tup [nv y, nv y]]))
 have g2 := Fz.new R1 (.lst [.tup [nv x, nv x], .tup [nv y, nv y]])
 generalize hs2 : (s.push (.lst (ps.map prV))).push (.lst [.tup [nv x, nv x], .tup [nv y, nv y]]) = s2 at *
 refine w_addL (x := ps.map prV) (y := [.tup [nv x, nv x], .tup [nv y, nv y]]) (listOf_ref (by rw [tail_get]; exact g1.1)) (listOf_ref (by rw [tail_get]; exact g2.1)) (by rw [List.length_map]; simp only [List.length_cons, List.length_nil]; unfold limit; lia) ?_
 have e : ps.map prV ++ [.tup [nv x, nv x], .tup [nv y, nv y]] = (ps ++ [(x, x), (y, y)]).map prV := by simp [prV]
 rw [e]
 walk_at "w"
 refine htried B R2 Z2 _ (ps ++ [(x, x), (y, y)]) ?_ (by simp; exact Nat.le_trans (by assumption) (Nat.le_add_left _ _)) (by simp) ?_
 ·intro p hp
  simp only [List.mem_append, List.mem_cons, List.not_mem_nil, or_false] at hp
  rcases hp with h | rfl | rfl
  ·exact hps p h
  ·exact ⟨hx, hx⟩
  ·exact ⟨hy, hy⟩
 intro v s3 a3 F3 R3 L3 hw3 ht3
 have Z3 := Z2.fr F3
 have hN3 : a3.nodes = b.nodes := L3.nodes
 have hx3 : x < a3.nodes.length := by rw [hN3]; exact hx
 have hy3 : y < a3.nodes.length := by rw [hN3]; exact hy
 walk_at "w"
 refine w_attrV (fs := [("heap", .ref 1)]) (C := "Trial") (w := .ref 1) (by rw [tail_get]; exact Z3.1) rfl rfl ?_
 refine w_methI rfl rfl mo_Levels_are_like ?_
 walk_at "w"
 refine hlike L3.inv.toShp _ hx3 hy3 ?_
 walk_at "w"
 refine w_attrV (fs := [("heap", .ref 1)]) (C := "Trial") (w := .ref 1) (by rw [tail_get]; exact Z3.1) rfl rfl ?_
 refine w_methI rfl rfl mo_Levels_pop ?_
 walk_at "w"
 obtain ⟨j, C⟩ := L3.chain
 have hcl := C.len
 have hbch : (b.push s2.tail.length).ch.length = b.ch.length := rfl
 have hj : j ≤ 100 := by
  have h2 : total b = b.ws.length + b.ch.length + (32 - 2 ^ (b.mrg.length + 1)) := rfl
  have h3 : total a3 = a3.ws.length + a3.ch.length + (32 - 2 ^ (a3.mrg.length + 1)) := rfl
  have h4 : b.ws.length = 0 := by rw [B.ws]; rfl
  have h5 : 0 < 2 ^ (b.mrg.length + 1) := Nat.two_pow_pos _
  generalize 2 ^ (b.mrg.length + 1) = u at *
  generalize 2 ^ (a3.mrg.length + 1) = u' at *
  lia
 refine hpop (s0 := s2) (ws0 := b.ws) hj (by show b.mks ++ [(b.ch.length, b.ws, _)] = _; rw [B.mks]; rfl) L3.mks C L3.inv.toOk R3 F3 _ ?_
 intro v4 s4 F4 R4
 rw [rest_back B.mks] at R4 ⊢
 walk_at "w"
 have hlike : decide (find a3.par x = find a3.par y) = likeB b.nodes (ps ++ T) x y := by
  rw [Bool.eq_iff_iff, likeB_iff, decide_eq_true_eq, settled L3.inv L3.done hw3 L3.told hx3 hy3, hN3]
  constructor
  ·exact Cl.skip
  ·exact Cl.mono fun p hp => by
    rcases List.mem_append.mp hp with h | h
    ·exact List.mem_append_left _ (List.mem_append_left _ h)
    ·exact List.mem_append_right _ h
 rw [hlike]
 exact q s4 (F2.trans F4) R4
end
set_option tactic.hygienic true
set_option tactic.hygienic false
noncomputable def uniq (l : List (Nat × Nat)) : List (Nat × Nat) := l.foldl (fun acc p => if p ∈ acc then acc else acc ++ [p]) []
theorem uniq_snoc (l : List (Nat × Nat)) (p : Nat × Nat) : uniq (l ++ [p]) = if p ∈ uniq l then uniq l else uniq l ++ [p] := by unfold uniq; rw [List.foldl_append]; rfl
theorem snocInd {α : Type} {P : List α → Prop} (h0 : P []) (h1 : ∀ l a, P l → P (l ++ [a])) (l : List α) : P l := by
 rw [← List.reverse_reverse l]
 induction l.reverse with
 | nil => exact h0
 | cons a r ih => rw [List.reverse_cons]; exact h1 _ _ ih
theorem mem_uniq (l : List (Nat × Nat)) (p : Nat × Nat) : p ∈ uniq l ↔ p ∈ l := by
 induction l using snocInd with
 | h0 => simp [uniq]
 | h1 l a ih =>
  rw [uniq_snoc]
  split
  ·rename_i h
   rw [ih, List.mem_append]
   constructor
   ·exact .inl
   ·rintro (h2 | h2)
    ·exact h2
    ·rw [List.mem_singleton] at h2; rw [← ih, h2]; exact h
  ·rw [List.mem_append, List.mem_append, ih]
theorem uniq_len (l : List (Nat × Nat)) : (uniq l).length ≤ l.length := by
 induction l using snocInd with
 | h0 => simp [uniq]
 | h1 l a ih =>
  rw [uniq_snoc, List.length_append]
  split
  ·solve_by_elim (maxDepth := 3) only [*, Nat.lt_of_lt_of_le, Nat.lt_of_le_of_lt, Nat.lt_trans, Nat.le_trans]
  ·rw [List.length_append]; simp; exact ih
theorem uniq_nodup (l : List (Nat × Nat)) : (uniq l).Nodup := by
 induction l using snocInd with
 | h0 => exact .nil
 | h1 l a ih =>
  rw [uniq_snoc]
  split
  ·exact ih
  ·rename_i h
   rw [List.nodup_append]
   exact ⟨ih, by simp, by rintro x hx y hy rfl; rw [List.mem_singleton] at hy; subst hy; exact h hx⟩
/-- one by one left out where the likeness stays -/
noncomputable def greedy (C : List (Nat × Nat) → Bool) (todo kept : List (Nat × Nat)) : List (Nat × Nat) := todo.foldl (fun kept p => if C (kept.filter fun q => !(q == p)) = true then kept.filter fun q => !(q == p) else kept) kept
theorem greedy_snoc (C : List (Nat × Nat) → Bool) (todo kept : List (Nat × Nat)) (p : Nat × Nat) : greedy C (todo ++ [p]) kept = if C ((greedy C todo kept).filter fun q => !(q == p)) = true then (greedy C todo kept).filter fun q => !(q == p) else greedy C todo kept := by unfold greedy; rw [List.foldl_append]; rfl
theorem greedy_sub (C : List (Nat × Nat) → Bool) (todo kept : List (Nat × Nat)) : (∀ p ∈ greedy C todo kept, p ∈ kept) ∧ (greedy C todo kept).length ≤ kept.length := by
 induction todo using snocInd with
 | h0 => exact ⟨fun _ h => h, Nat.le_refl _⟩
 | h1 l a ih =>
  rw [greedy_snoc]
  split
  ·exact ⟨fun p hp => ih.1 p (List.mem_filter.mp hp).1, Nat.le_trans (List.length_filter_le _ _) ih.2⟩
  ·exact ih
theorem prV_inj {p q : Nat × Nat} (h : prV p = prV q) : p = q := by
 simp only [prV, V.tup.injEq, List.cons.injEq, and_true] at h
 exact Prod.ext (nv_inj h.1) (nv_inj h.2)
theorem prV_beq (p q : Nat × Nat) : (prV p).beq (prV q) = (p == q) := by
 rw [Bool.eq_iff_iff, V.beq_iff, beq_iff_eq]
 exact ⟨prV_inj, fun h => by rw [h]⟩
theorem prs_pure (n : Nat) (l : List (Nat × Nat)) : (l.map prV).all (V.pureN (n + 2)) = true := List.all_eq_true.mpr fun _ hv => (List.mem_map.mp hv).elim fun _ h => h.2 ▸ rfl
theorem nat_beq (a b : Nat) : ((a : Int) == (b : Int)) = (a == b) := by rw [Bool.eq_iff_iff, beq_iff_eq, beq_iff_eq]; exact Int.ofNat_inj
theorem eqv_pr (p q : Nat × Nat) : PyData.eqv (prV p).py (prV q).py = (p == q) := congr (congrArg and (nat_beq _ _)) ((Bool.and_true _).trans (nat_beq _ _))
theorem prs_any (l : List (Nat × Nat)) (p : Nat × Nat) : ((l.map prV).any fun y => PyData.eqv y.py (prV p).py) = decide (p ∈ l) :=
 List.any_map.trans ((congrArg l.any (funext fun q => eqv_pr q p)).trans (List.any_beq'.trans (List.contains_eq_mem ..)))
theorem veq_pr (p q : Nat × Nat) (μ : Mem) : veq (prV p) (prV q) μ (p == q) := ⟨rfl, rfl, (eqv_pr p q).symm⟩
section
variable {s : St} {b : A} {Q : V → Mem → Prop} {T : List (Nat × Nat)}
theorem hcauses {tr : Nat} (B : Rest T b) (R : Rep s b) (Z : Fz s tr triO) (n : Nat) (ps : List (Nat × Nat)) (hps : ∀ p ∈ ps, p.1 < b.nodes.length ∧ p.2 < b.nodes.length) (hl : ps.length ≤ 15) {x y : Nat} (hx : x < b.nodes.length) (hy : y < b.nodes.length)
  (q : ∀ s', Fr s s' → Rep s' b → Q (if likeB b.nodes (ps ++ T) x y = true then .lst ((greedy (fun l => likeB b.nodes (l ++ T) x y) (uniq ps) (uniq ps)).map prV) else .none) (mem s' b)) : W2 (callD (n + 500) "Trial" (nthM 13 5) [.ref (tr + 20), .lst (ps.map prV), nv x, nv y] (mem s b)) Q := by
 conv => arg 1; arg 3; whnf
 walk_at "w"
 refine w_methI (fs := [("heap", .ref 1)]) (C := "Trial") (by rw [tail_get]; exact Z.1) rfl mo_Trial_would ?_
 walk_at "w"
 refine hwould B R Z _ ps hps hl hx hy ?_
 intro s1 F1 R1
 refine ⟨_, rfl, ?_⟩
 by_cases hlk : likeB b.nodes (ps ++ T) x y = true
 ·rw [if_pos hlk] at q
  rw [hlk]
  refine iM nofun ?_
  walk_at "w"
  refine w_assC rfl rfl (w_srcEnum rfl ?_)
  walk_at "w"
  refine ⟨_, rfl, ?_⟩
  show W3 _ _
  refine w_cmp (ps.map prV) rfl (fun i acc ρ μ => μ = mem s1 b ∧ acc = (uniq (ps.take i)).map prV ∧ (ρ = ([(("pairs" : Str), V.lst (ps.map prV))] : List (Str × V)) ∨ ∃ u v, ρ = put (put ([(("pairs" : Str), V.lst (ps.map prV))] : List (Str × V)) ("k" : Str) u) ("pair" : Str) v))
   (fun i acc ρ μ _ _ => at_enumv) ?_ ?_ ⟨rfl, rfl, .inl rfl⟩
  ·rintro i v acc ρ μ hv ⟨rfl, rfl, hρ⟩
   rw [List.getElem?_map] at hv
   obtain ⟨p, hp, rfl⟩ := Option.map_eq_some_iff.mp hv
   have hi : i < ps.length := (List.getElem?_eq_some_iff.mp hp).1
   refine w_stuple rfl ?_
   show W1 (itemsOf (.tup [nv i, prV p]) _) _
   refine w_itT (w_sl rfl ?_)
   refine w_scons (w_sname rfl (w_scons (w_sname rfl (w_snil ?_))))
   have e : put (put ρ ("k" : Str) (nv i)) ("pair" : Str) (prV p) = put (put ([(("pairs" : Str), V.lst (ps.map prV))] : List (Str × V)) ("k" : Str) (nv i)) ("pair" : Str) (prV p) := by
    rcases hρ with rfl | ⟨u, v, rfl⟩ <;> rfl
   rw [e]
   walk_at "w"
   refine w_evo1 ?_
   walk_at "w"
   refine ⟨_, rfl, ?_⟩
   refine w_slL (vs := ps.map prV) rfl (by rw [List.length_map]; unfold limit; exact Nat.lt_of_le_of_lt (by assumption) (by decide)) (cutL_to (by exact Int.natCast_nonneg _)) ?_
   rw [Int.toNat_natCast, ← List.map_take]
   refine w_notIn (isIn_L (vs := (ps.take i).map prV) rfl (prs_pure 3 _)) ?_
   rw [prs_any]
   have hst : uniq (ps.take (i + 1)) = if p ∈ uniq (ps.take i) then uniq (ps.take i) else uniq (ps.take i) ++ [p] := by
    rw [List.take_add_one, hp]; exact uniq_snoc _ _
   by_cases hmem : p ∈ ps.take i
   ·have h2 : p ∈ uniq (ps.take i) := (mem_uniq _ _).mpr hmem
    simp only [hmem, decide_true, Bool.not_true, Bool.false_eq_true, if_false]
    refine ⟨trivial, by rw [hst, if_pos h2], .inr ⟨_, _, rfl⟩⟩
   ·have h2 : ¬ p ∈ uniq (ps.take i) := fun h => hmem ((mem_uniq _ _).mp h)
    refine iK hmem ?_
    walk_at "w"
    refine iP rfl ?_
    walk_at "w"
    refine ⟨?_, rfl, by rw [hst, if_neg h2]; simp, .inr ⟨_, _, rfl⟩⟩
    have h3 := uniq_len (ps.take i)
    have h4 : (ps.take i).length ≤ 15 := by rw [List.length_take]; lia
    rw [List.length_map]; unfold limit; lia
  ·rintro acc ρ μ ⟨rfl, rfl, _⟩
   rw [List.length_map, List.take_length]
   have hul := uniq_len ps
   walk_at "w"
   refine w_src ?_
   walk_at "w"
   refine w_bltn rfl (w_listL (xs := (uniq ps).map prV) rfl (by rw [List.length_map]; unfold limit; lia) ?_)
   rw [mem_push, mem_len]
   have R2 := R1.push (.lst ((uniq ps).map prV))
   have F2 : Fr s1 (s1.push (.lst ((uniq ps).map prV))) := Fr.push _ _
   have g2 := Fz.new R1 (.lst ((uniq ps).map prV))
   have Z2 := (Z.fr F1).fr F2
   generalize s1.push (.lst ((uniq ps).map prV)) = s2 at *
   generalize s1.tail.length = J at *
   refine w_sofR (xs := (uniq ps).map prV) (by rw [tail_get]; exact g2.1) ?_
   refine w_fr ((uniq ps).map prV) rfl (fun i ρ μ => ∃ s3, μ = mem s3 b ∧ Fr s2 s3 ∧ Rep s3 b ∧
     ((i = 0 ∧ ρ = put (put (put (put (put ([] : Loc) ("self" : Str) (.ref (tr + 20))) ("pairs" : Str) (.lst (ps.map prV))) ("a" : Str) (nv x)) ("b" : Str) (nv y)) ("kept" : Str) (.lst ((uniq ps).map prV))) ∨
     ∃ u v, ρ = put (put (put (put (put (put (put ([] : Loc) ("self" : Str) (.ref (tr + 20))) ("pairs" : Str) (.lst (ps.map prV))) ("a" : Str) (nv x)) ("b" : Str) (nv y)) ("kept" : Str) (.lst ((greedy (fun l => likeB b.nodes (l ++ T) x y) ((uniq ps).take i) (uniq ps)).map prV))) ("pair" : Str) u) ("left" : Str) v))
    ?_ ?_ ?_ ⟨s2, rfl, Fr.refl s2, R2, .inl ⟨rfl, rfl⟩⟩
   ·rintro i ρ μ _ ⟨s3, rfl, F3, R3, _⟩
    exact at_ref (by rw [tail_get]; exact (g2.fr F3).1)
   ·rintro i v ρ μ hv ⟨s3, rfl, F3, R3, hρ⟩
    rw [List.getElem?_map] at hv
    obtain ⟨p, hp, rfl⟩ := Option.map_eq_some_iff.mp hv
    have hi : i < (uniq ps).length := (List.getElem?_eq_some_iff.mp hp).1
    have hgs := greedy_sub (fun l => likeB b.nodes (l ++ T) x y) ((uniq ps).take i) (uniq ps)
    have hgr : greedy (fun l => likeB b.nodes (l ++ T) x y) ((uniq ps).take (i + 1)) (uniq ps) = if likeB b.nodes (((greedy (fun l => likeB b.nodes (l ++ T) x y) ((uniq ps).take i) (uniq ps)).filter fun q => !(q == p)) ++ T) x y = true then (greedy (fun l => likeB b.nodes (l ++ T) x y) ((uniq ps).take i) (uniq ps)).filter (fun q => !(q == p)) else greedy (fun l => likeB b.nodes (l ++ T) x y) ((uniq ps).take i) (uniq ps) := by
     rw [List.take_add_one, hp]; exact greedy_snoc _ _ _ _
    have hρ' : ∃ l, put ρ ("pair" : Str) (prV p) = put (put (put (put (put (put ([] : Loc) ("self" : Str) (.ref (tr + 20))) ("pairs" : Str) (.lst (ps.map prV))) ("a" : Str) (nv x)) ("b" : Str) (nv y)) ("kept" : Str) (.lst ((greedy (fun l => likeB b.nodes (l ++ T) x y) ((uniq ps).take i) (uniq ps)).map prV))) ("pair" : Str) (prV p) ∧ l = 0 ∨ ∃ v, l = 1 ∧
     put ρ ("pair" : Str) (prV p) = put (put (put (put (put (put (put ([] : Loc) ("self" : Str) (.ref (tr + 20))) ("pairs" : Str) (.lst (ps.map prV))) ("a" : Str) (nv x)) ("b" : Str) (nv y)) ("kept" : Str) (.lst ((greedy (fun l => likeB b.nodes (l ++ T) x y) ((uniq ps).take i) (uniq ps)).map prV))) ("pair" : Str) (prV p)) ("left" : Str) v := by
     rcases hρ with ⟨rfl, rfl⟩ | ⟨u, v, rfl⟩
     ·exact ⟨0, .inl ⟨rfl, rfl⟩⟩
     ·exact ⟨1, .inr ⟨v, rfl, rfl⟩⟩
    generalize greedy (fun l => likeB b.nodes (l ++ T) x y) ((uniq ps).take i) (uniq ps) = kept at *
    have hkl : kept.length ≤ 15 := by lia
    refine w_sname rfl ?_
    rw [show (Src.ref (J + 20)).wrap i (prV p) = prV p from rfl]
    have Z3 := Z2.fr F3
    have hfm : ((kept.map prV).filter fun v => !(v.beq (prV p))).map (fun v => v) = (kept.filter fun q => !(q == p)).map prV := by
     rw [List.map_id', List.filter_map]
     congr 1
     apply List.filter_congr
     intro q _
     show (!((prV q).beq (prV p))) = _
     rw [prV_beq]
    have hleft : ∀ q ∈ kept.filter (fun q => !(q == p)), q.1 < b.nodes.length ∧ q.2 < b.nodes.length := fun q hq => hps q ((mem_uniq _ _).mp (hgs.1 q (List.mem_filter.mp hq).1))
    have hll : (kept.filter fun q => !(q == p)).length ≤ 15 := Nat.le_trans (List.length_filter_le _ _) hkl
    obtain ⟨l, hρ'⟩ := hρ'
    rcases hρ' with ⟨e, _⟩ | ⟨v0, _, e⟩ <;> rw [e]
    all_goals
     walk_at "w"
     refine w_assC rfl rfl (w_src ?_)
     walk_at "w"
     refine w_sofL ?_
     refine w_filt (kept.map prV) (fun v => v) (fun v => !(v.beq (prV p))) rfl (by rw [List.length_map]; exact Nat.le_trans (by assumption) (Nat.le_add_left _ _)) ?_ ?_ (fun ρ => ?_)
     ·intro v hv
      obtain ⟨q, hq, rfl⟩ := List.mem_map.mp hv
      walk_at "w"
      refine w_ne (veq_pr q p _) ?_
      rw [prV_beq]
      cases hqp : (q == p)
      ·refine iP rfl ?_
       walk_at "w"
       exact ⟨rfl, rfl⟩
      ·exact ⟨rfl, rfl⟩
     ·intro v hv _
      walk_at "w"
      exact ⟨rfl, rfl⟩
     ·rw [hfm]
      walk_at "w"
      refine w_methI (fs := [("heap", .ref 1)]) (C := "Trial") (by rw [tail_get]; exact Z3.1) rfl mo_Trial_would ?_
      walk_at "w"
      refine hwould B R3 Z3 _ _ hleft hll hx hy ?_
      intro s4 F4 R4
      refine ⟨_, rfl, ?_⟩
      by_cases h : likeB b.nodes ((kept.filter fun q => !(q == p)) ++ T) x y = true
      ·rw [h]
       refine iP rfl ?_
       walk_at "w"
       refine .inl ⟨rfl, s4, rfl, F3.trans F4, R4, .inr ⟨prV p, .lst ((kept.filter fun q => !(q == p)).map prV), ?_⟩⟩
       rw [hgr, if_pos h]
       try rfl
      ·rw [if_neg h]
       walk_at "w"
       refine .inl ⟨rfl, s4, rfl, F3.trans F4, R4, .inr ⟨prV p, .lst ((kept.filter fun q => !(q == p)).map prV), ?_⟩⟩
       rw [hgr, if_neg h]
       try rfl
   ·rintro ρ μ ⟨s3, rfl, F3, R3, hρ⟩
    rw [List.length_map, List.take_length] at hρ
    rcases hρ with ⟨h0, rfl⟩ | ⟨u, v, rfl⟩
    ·walk_at "w"
     have h1 : uniq ps = [] := List.length_eq_zero_iff.mp h0
     have := q s3 ((F1.trans F2).trans F3) R3
     rw [h1] at this ⊢
     exact this
    ·walk_at "w"
     exact q s3 ((F1.trans F2).trans F3) R3
 ·rw [if_neg hlk] at q
  have : likeB b.nodes (ps ++ T) x y = false := by simpa using hlk
  rw [this]
  refine iP rfl ?_
  walk_at "w"
  exact q s1 F1 R1
end
set_option tactic.hygienic true
set_option tactic.hygienic false
abbrev Pr := Nat × Nat
noncomputable def lotR : List Pr → Nat → List Pr
 | [], _ => []
 | x :: r, k => (if k / 2 ^ r.length % 2 = 1 then [x] else []) ++ lotR r k
/-- greedy, written by hand -/
noncomputable def gr (C : List Pr → Bool) : List Pr → List Pr → List Pr
 | pre, [] => pre
 | pre, x :: r => if C (pre ++ r) = true then gr C pre r else gr C (pre ++ [x]) r
theorem div_one {q j : Nat} (h : j < q) : (q + j) / q = 1 := by
 rw [Nat.add_div_left _ (Nat.lt_of_le_of_lt (Nat.zero_le _) h), Nat.div_eq_of_lt h]
theorem lotR_low (r : List Pr) (n k : Nat) (h : r.length ≤ n) : lotR r (2 ^ n + k) = lotR r k := by
 induction r with
 | nil => rfl
 | cons x r ih =>
  have hr : r.length + 1 ≤ n := h
  unfold lotR
  rw [ih (Nat.le_of_lt hr)]
  congr 1
  obtain ⟨m, rfl⟩ := Nat.exists_eq_add_of_le hr
  have e : 2 ^ (r.length + 1 + m) + k = k + 2 ^ r.length * (2 * 2 ^ m) := by
   rw [Nat.pow_add, Nat.pow_succ]
   rw [Nat.mul_assoc]; exact Nat.add_comm _ _
  rw [e, Nat.add_mul_div_left _ _ (Nat.two_pow_pos _), Nat.add_mul_mod_self_left]
theorem lotR_sub (l : List Pr) (k : Nat) : ∀ p ∈ lotR l k, p ∈ l := by
 induction l with
 | nil => intro p h; cases h
 | cons x r ih =>
  intro p h
  unfold lotR at h
  rcases List.mem_append.mp h with h | h
  ·split at h
   ·rw [List.mem_singleton] at h; rw [h]; exact .head _
   ·cases h
  ·exact .tail _ (ih p h)
theorem lotR_all (l : List Pr) : lotR l (2 ^ l.length - 1) = l := by
 induction l with
 | nil => rfl
 | cons x r ih =>
  have hp := Nat.two_pow_pos r.length
  have e : 2 ^ (x :: r).length - 1 = 2 ^ r.length + (2 ^ r.length - 1) := by
   rw [List.length_cons, Nat.pow_succ, Nat.mul_two]; exact Nat.add_sub_assoc hp _
  rw [e]
  unfold lotR
  rw [lotR_low r r.length _ (Nat.le_refl _), ih]
  rw [div_one (Nat.sub_lt hp (by decide))]
  rfl
theorem lot_least (C : List Pr → Bool) (mono : ∀ l l', (∀ p ∈ l, p ∈ l') → C l = true → C l' = true) : ∀ (l pre : List Pr) (k : Nat), k < 2 ^ l.length → (∀ j < k, C (pre ++ lotR l j) = false) → C (pre ++ lotR l k) = true → pre ++ lotR l k = gr C pre l
 | [], pre, k, _, _, _ => by simp [lotR, gr]
 | x :: r, pre, k, hk, hj, hc => by
  have hp := Nat.two_pow_pos r.length
  have hk : k < 2 ^ r.length * 2 := by rw [List.length_cons, Nat.pow_succ] at hk; exact hk
  have hsm : ∀ j, j < 2 ^ r.length → lotR (x :: r) j = lotR r j := by
   intro j h
   rw [lotR, Nat.div_eq_of_lt h]; rfl
  by_cases h : k < 2 ^ r.length
  ·rw [hsm k h] at hc ⊢
   have hr : C (pre ++ r) = true := mono _ _ (fun p hp => by
    rcases List.mem_append.mp hp with q | q
    ·exact List.mem_append_left _ q
    ·exact List.mem_append_right _ (lotR_sub r k p q)) hc
   unfold gr
   rw [if_pos hr]
   exact lot_least C mono r pre k h (fun j hj' => by rw [← hsm j (Nat.lt_trans hj' h)]; exact hj j hj') hc
  ·obtain ⟨k', rfl⟩ := Nat.exists_eq_add_of_le (Nat.le_of_not_lt h)
   have hk' : k' < 2 ^ r.length := by rw [Nat.mul_two] at hk; exact Nat.lt_of_add_lt_add_left hk
   have hbg : ∀ j, j < 2 ^ r.length → lotR (x :: r) (2 ^ r.length + j) = x :: lotR r j := by
    intro j h
    rw [lotR, lotR_low r r.length _ (Nat.le_refl _)]
    rw [div_one h]; rfl
   have hr : ¬ C (pre ++ r) = true := by
    have := hj (2 ^ r.length - 1) (Nat.lt_of_lt_of_le (Nat.sub_lt hp (by decide)) (Nat.le_add_right _ _))
    rw [hsm _ (Nat.sub_lt hp (by decide)), lotR_all] at this
    simp [this]
   unfold gr
   rw [if_neg hr]
   rw [hbg k' hk'] at hc ⊢
   have e : ∀ l : List Pr, pre ++ x :: l = (pre ++ [x]) ++ l := fun l => by simp
   rw [e] at hc ⊢
   refine lot_least C mono r (pre ++ [x]) k' hk' (fun j hj' => ?_) hc
   rw [← e, ← hbg j (Nat.lt_trans hj' hk')]
   exact hj _ (Nat.add_lt_add_left hj' _)
theorem greedy_gr (C : List Pr → Bool) (mono : ∀ l l', (∀ p ∈ l, p ∈ l') → C l = true → C l' = true) : ∀ (l pre : List Pr), (pre ++ l).Nodup → greedy C l (pre ++ l) = gr C pre l
 | [], pre, _ => by simp [greedy, gr]
 | x :: r, pre, hn => by
  have hf : (pre ++ x :: r).filter (fun q => !(q == x)) = pre ++ r := by
   rw [List.nodup_append] at hn
   obtain ⟨h1, h2, h3⟩ := hn
   rw [List.nodup_cons] at h2
   rw [List.filter_append, List.filter_cons]
   simp only [beq_self_eq_true, Bool.not_true, Bool.false_eq_true, if_false]
   congr 1
   ·rw [List.filter_eq_self]
    intro q hq
    have := h3 q hq x (.head _)
    simpa using this
   ·rw [List.filter_eq_self]
    intro q hq
    have : q ≠ x := by rintro rfl; exact h2.1 hq
    simpa using this
  show greedy C r (if C ((pre ++ x :: r).filter fun q => !(q == x)) = true then (pre ++ x :: r).filter fun q => !(q == x) else pre ++ x :: r) = gr C pre (x :: r)
  rw [hf, gr]
  split
  ·refine greedy_gr C mono r pre ?_
   rw [List.nodup_append] at hn ⊢
   obtain ⟨h1, h2, h3⟩ := hn
   rw [List.nodup_cons] at h2
   exact ⟨h1, h2.2, fun a ha b hb => h3 a ha b (.tail _ hb)⟩
  ·have e : pre ++ x :: r = (pre ++ [x]) ++ r := by simp
   rw [e] at hn ⊢
   exact greedy_gr C mono r (pre ++ [x]) hn
/-- the least lot is the greedy one -/
theorem due_eq (C : List Pr → Bool) (mono : ∀ l l', (∀ p ∈ l, p ∈ l') → C l = true → C l' = true) (l : List Pr) (hn : l.Nodup) {v : V}
  (h : (∃ k, k < 2 ^ l.length ∧ (∀ j < k, C (lotR l j) = false) ∧ C (lotR l k) = true ∧ v = .lst ((lotR l k).map prV)) ∨ ((∀ j < 2 ^ l.length, C (lotR l j) = false) ∧ v = .none)) :
  v = if C l = true then .lst ((greedy C l l).map prV) else .none := by
 rcases h with ⟨k, h1, h2, h3, rfl⟩ | ⟨h1, rfl⟩
 ·have hl : C l = true := mono _ _ (lotR_sub l k) h3
  rw [if_pos hl]
  have := lot_least C mono l [] k h1 (fun j hj => h2 j hj) h3
  rw [List.nil_append] at this
  have h4 := greedy_gr C mono l [] hn
  rw [List.nil_append] at h4
  rw [h4, ← this]
 ·have := h1 (2 ^ l.length - 1) (by have := Nat.two_pow_pos l.length; exact Nat.sub_lt (by assumption) (by decide))
  rw [lotR_all] at this
  rw [this]
  rfl
set_option tactic.hygienic true
set_option tactic.hygienic false
/-- memories that grow -/
noncomputable def Grow (μ μ' : Mem) : Prop := ∃ e, μ' = μ ++ e
theorem Grow.refl (μ : Mem) : Grow μ μ := ⟨[], by simp⟩
theorem Grow.trans {μ μ' μ'' : Mem} (a : Grow μ μ') (b : Grow μ' μ'') : Grow μ μ'' := let ⟨e, h⟩ := a; let ⟨e', h'⟩ := b; ⟨e ++ e', by rw [h', h, List.append_assoc]⟩
theorem Grow.push (μ : Mem) (o : O) : Grow μ (μ ++ [o]) := ⟨[o], rfl⟩
theorem Grow.len {μ μ' : Mem} (a : Grow μ μ') : μ.length ≤ μ'.length := by obtain ⟨e, rfl⟩ := a; simp
theorem Grow.set {μ μ' : Mem} (a : Grow μ μ') {k : Nat} (h : μ.length ≤ k) (o : O) : Grow μ (μ'.set k o) := by
 obtain ⟨e, rfl⟩ := a
 exact ⟨e.set (k - μ.length) o, List.set_append_right k o h⟩
theorem Grow.get {μ μ' : Mem} (a : Grow μ μ') {k : Nat} {o : O} (h : μ[k]? = some o) : μ'[k]? = some o := by
 obtain ⟨e, rfl⟩ := a
 rw [List.getElem?_append_left (List.getElem?_eq_some_iff.mp h).1]; exact h
theorem get_new (μ : Mem) (o : O) : (μ ++ [o])[μ.length]? = some o := by simp
theorem set_get {μ : Mem} {k : Nat} {o o' : O} (h : μ[k]? = some o) : (μ.set k o')[k]? = some o' := List.getElem?_set_self (List.getElem?_eq_some_iff.mp h).1
theorem set_get_ne {μ : Mem} {k j : Nat} {o' : O} (h : k ≠ j) : (μ.set k o')[j]? = μ[j]? := List.getElem?_set_ne h
/-- the clock -/
noncomputable def clkO (row : List Int) (t : Nat) : O := .dict [(.str "row", .lst (row.map .int)), (.str "at", nv t)]
theorem key_row (t : V) (r : V) : dget [(.str "row", r), (.str "at", t)] (.str "row") = some r := rfl
theorem key_at (t : V) (r : V) : dget [(.str "row", r), (.str "at", t)] (.str "at") = some t := rfl
theorem htick (n : Nat) {row : List Int} {t : Nat} {μ : Mem} {many : Nat} (hm : 0 < many) (h0 : μ[0]? = some (clkO row t)) (ht : t ≤ 1000) (hr : row.length ≤ 100) {Q : V → Mem → Prop}
  (q : ∀ r, r < many → Q (nv r) (μ.set 0 (clkO row (t + 1)))) : W2 (callD (n + 40) Str.empty (nthM 15 0) [.ref 0, nv many] μ) Q := by
 have fin : ∀ x : Int, ∃ r : Nat, r < many ∧ x.fmod many = r := by
  intro x
  have h1 : 0 ≤ x.fmod many := Int.fmod_nonneg_of_pos x (by exact Int.ofNat_lt.mpr (by assumption))
  have h2 : x.fmod many < many := Int.fmod_lt_of_pos x (by exact Int.ofNat_lt.mpr (by assumption))
  exact ⟨(x.fmod many).toNat, (Int.toNat_lt h1).mpr h2, (Int.toNat_of_nonneg h1).symm⟩
 have hok : ∀ (w x : V) (y : Str), okKey [(.str "row", w), (.str "at", x)] (.str y) = true := fun _ _ _ => rfl
 conv => arg 1; arg 3; whnf
 walk_at "w"
 refine w_idxD h0 (hok _ _ _) (key_at _ _) ?_
 walk_at "w"
 refine w_sitemD h0 (by rw [hok]; rfl) ?_
 have e1 : μ.set 0 (.dict (dput [(.str "row", .lst (row.map .int)), (.str "at", nv t)] (.str "at") (.int ((t : Int) + 1)))) = μ.set 0 (clkO row (t + 1)) := rfl
 rw [e1]
 have h1 : (μ.set 0 (clkO row (t + 1)))[0]? = some (clkO row (t + 1)) := set_get h0
 walk_at "w"
 refine w_idxD h1 (hok _ _ _) (key_row _ _) ?_
 walk_at "w"
 refine w_bltn rfl (w_len (xs := row.map .int) rfl (by rw [List.length_map]; unfold limit; exact Nat.lt_of_le_of_lt (by assumption) (by decide)) ?_)
 walk_at "w"
 rw [List.length_map]
 by_cases hlt : t < row.length
 ·have : (t : Int) < (row.length : Nat) := by exact_mod_cast hlt
  refine iD this ?_
  walk_at "w"
  refine w_idxD h1 (hok _ _ _) (key_row _ _) ?_
  walk_at "w"
  refine w_idxL (vs := row.map .int) rfl (by rw [getIdx_nat (by unfold limit; exact Nat.lt_of_le_of_lt (by assumption) (by decide)), List.getElem?_map, List.getElem?_eq_getElem hlt]; rfl) ?_
  walk_at "w"
  refine w_modI (by exact Int.ofNat_lt.mpr (by assumption)) ?_
  walk_at "w"
  obtain ⟨r, h2, h3⟩ := fin row[t]
  rw [h3]; exact q r h2
 ·have : ¬ ((t : Int) < (row.length : Nat)) := by exact_mod_cast hlt
  refine iN this ?_
  have hsm : ∀ i : Int, 0 ≤ i → i ≤ 1000000 → small i = true := by
   intro i h1 h2
   have e1 : (-(2 ^ 62) : Int) < 0 := by decide
   have e2 : (1000000 : Int) < 2 ^ 62 := by decide
   simp only [small, Bool.and_eq_true, decide_eq_true_eq]
   exact ⟨Int.lt_of_lt_of_le e1 h1, Int.lt_of_le_of_lt h2 e2⟩
  walk_at "w"
  refine w_mulI (by rw [hsm 3 (by exact Int.natCast_nonneg _) (by solve_by_elim (maxDepth := 4) only [*, Int.natCast_nonneg, Int.le_trans, Int.lt_of_lt_of_le, Int.lt_of_le_of_lt, Int.le_of_lt, Int.not_lt_of_ge, Int.not_le_of_gt]), hsm t (by exact Int.natCast_nonneg _) (by lia)]; rfl) ?_
  walk_at "w"
  refine w_mulI (by rw [hsm (3 * t) (by solve_by_elim (maxDepth := 4) only [*, Int.natCast_nonneg, Int.le_trans, Int.lt_of_lt_of_le, Int.lt_of_le_of_lt, Int.le_of_lt, Int.not_lt_of_ge, Int.not_le_of_gt]) (by lia), hsm t (by exact Int.natCast_nonneg _) (by lia)]; rfl) ?_
  walk_at "w"
  refine w_mulI (by rw [hsm 8 (by exact Int.natCast_nonneg _) (by solve_by_elim (maxDepth := 4) only [*, Int.natCast_nonneg, Int.le_trans, Int.lt_of_lt_of_le, Int.lt_of_le_of_lt, Int.le_of_lt, Int.not_lt_of_ge, Int.not_le_of_gt]), hsm t (by exact Int.natCast_nonneg _) (by lia)]; rfl) ?_
  walk_at "w"
  refine w_fdivI rfl ?_
  walk_at "w"
  refine w_modI (by exact Int.ofNat_lt.mpr (by assumption)) ?_
  walk_at "w"
  obtain ⟨r, h2, h3⟩ := fin (3 * (t : Int) * t + 8 * t + (t : Int).fdiv 2 + 1)
  rw [h3]; exact q r h2
set_option tactic.hygienic true
set_option tactic.hygienic false
/-- labels that say what is alike -/
structure Hom (N : List Nd) (P : List Pr) (hs : List Nat) : Prop where
 len : hs.length = N.length
 cl : ∀ x h, hs[x]? = some h → h < N.length ∧ Cl N P x h
noncomputable def unify (hs : List Nat) (l h : Nat) : List Nat := hs.map fun x => if x = h then l else x
theorem sum_map_le (f : Nat → Nat) (hf : ∀ x, f x ≤ x) : ∀ l : List Nat, (l.map f).sum ≤ l.sum
 | [] => Nat.le_refl _
 | x :: r => by rw [List.map_cons, List.sum_cons, List.sum_cons]; have := sum_map_le f hf r; have := hf x; exact Nat.add_le_add (by assumption) (by assumption)
theorem sum_map_lt (f : Nat → Nat) (hf : ∀ x, f x ≤ x) : ∀ {l : List Nat} {y : Nat}, y ∈ l → f y < y → (l.map f).sum < l.sum
 | x :: r, y, hy, h => by
  rw [List.map_cons, List.sum_cons, List.sum_cons]
  have h1 := sum_map_le f hf r
  have h2 := hf x
  rcases List.mem_cons.mp hy with rfl | hy
  ·exact Nat.add_lt_add_of_lt_of_le h h1
  ·exact Nat.add_lt_add_of_le_of_lt h2 (sum_map_lt f hf hy h)
theorem unify_hom {N : List Nd} {P : List Pr} {hs : List Nat} (H : Hom N P hs) {u v a b : Nat} (ha : hs[u]? = some a) (hb : hs[v]? = some b) (hc : Cl N P u v) :
  Hom N P (unify hs (min a b) (max a b)) ∧ (∀ x y : Nat, hs[x]? = hs[y]? → (unify hs (min a b) (max a b))[x]? = (unify hs (min a b) (max a b))[y]?) ∧ (unify hs (min a b) (max a b))[u]? = (unify hs (min a b) (max a b))[v]? ∧
  (unify hs (min a b) (max a b)).sum ≤ hs.sum ∧ (a ≠ b → (unify hs (min a b) (max a b)).sum < hs.sum) := by
 obtain ⟨la, ca⟩ := H.cl u a ha
 obtain ⟨lb, cb⟩ := H.cl v b hb
 have cab : Cl N P a b := (ca.symm.trans hc).trans cb
 have clh : Cl N P (max a b) (min a b) := by
  rcases Nat.le_total a b with h | h
  ·rw [Nat.max_eq_right h, Nat.min_eq_left h]; exact cab.symm
  ·rw [Nat.max_eq_left h, Nat.min_eq_right h]; exact cab
 have hf : ∀ x, (if x = max a b then min a b else x) ≤ x := by
  intro x
  split
  ·rename_i q; rw [q]; exact Nat.le_trans (Nat.min_le_left _ _) (Nat.le_max_left _ _)
  ·exact Nat.le_refl _
 refine ⟨⟨by unfold unify; rw [List.length_map]; exact H.len, fun x h hx => ?_⟩, fun x y h => ?_, ?_, sum_map_le _ hf hs, fun hne => ?_⟩
 ·unfold unify at hx
  rw [List.getElem?_map] at hx
  obtain ⟨z, hz, e⟩ := Option.map_eq_some_iff.mp hx
  obtain ⟨lz, cz⟩ := H.cl x z hz
  split at e
  ·rename_i q
   rw [q] at cz
   rw [← e]
   exact ⟨Nat.lt_of_le_of_lt (Nat.min_le_left _ _) la, cz.trans clh⟩
  ·rw [← e]; exact ⟨lz, cz⟩
 ·unfold unify
  rw [List.getElem?_map, List.getElem?_map, h]
 ·unfold unify
  rw [List.getElem?_map, List.getElem?_map, ha, hb]
  simp only [Option.map_some]
  congr 1
  rcases Nat.le_total a b with h | h
  ·rw [Nat.max_eq_right h, Nat.min_eq_left h, if_pos rfl]; split <;> rfl
  ·rw [Nat.max_eq_left h, Nat.min_eq_right h, if_pos rfl]; split <;> rfl
 ·have hm : max a b ∈ hs := by
   rcases Nat.le_total a b with h | h
   ·rw [Nat.max_eq_right h]; exact List.mem_of_getElem? hb
   ·rw [Nat.max_eq_left h]; exact List.mem_of_getElem? ha
  exact sum_map_lt _ hf hm (by rw [if_pos rfl]; exact Nat.lt_of_le_of_ne (Nat.le_trans (Nat.min_le_left _ _) (Nat.le_max_left _ _)) (fun e => hne (min_max e)))
/-- the sign of a number under the labels -/
noncomputable def sgH (hs : List Nat) (d : Nd) : Nd := (d.1, d.2.map fun k => (hs[k]?).getD 0)
/-- the pass over the numbers, i of them done -/
structure Pass (N : List Nd) (hs : List Nat) (i : Nat) (fs : List (Nd × Nat)) (ws : List Pr) : Prop where
 own : ∀ sg f, fs.lookup sg = some f → f < i ∧ ∃ d, N[f]? = some d ∧ sgH hs d = sg
 all : ∀ m d, m < i → N[m]? = some d → ∃ f, fs.lookup (sgH hs d) = some f ∧ (hs[f]? = hs[m]? ∨ (f, m) ∈ ws)
 wish : ∀ p ∈ ws, (∃ d e, N[p.1]? = some d ∧ N[p.2]? = some e ∧ sgH hs d = sgH hs e) ∧ hs[p.1]? ≠ hs[p.2]?
 few : ws.length ≤ i ∧ fs.length ≤ i
theorem pass_zero (N : List Nd) (hs : List Nat) : Pass N hs 0 [] [] := ⟨(fun _ _ h => by cases h), (fun _ _ h => by exact absurd (by assumption) (Nat.not_lt_zero _)), (fun _ h => nomatch h), by simp⟩
theorem pass_old {N : List Nd} {hs : List Nat} {i : Nat} {fs : List (Nd × Nat)} {ws : List Pr} (p : Pass N hs i fs ws) {d : Nd} (hd : N[i]? = some d) {f : Nat} (hf : fs.lookup (sgH hs d) = some f) :
  Pass N hs (i + 1) fs (if hs[f]? = hs[i]? then ws else ws ++ [(f, i)]) := by
 obtain ⟨f1, e, he, hse⟩ := p.own _ _ hf
 have hw : ∀ q ∈ ws, q ∈ (if hs[f]? = hs[i]? then ws else ws ++ [(f, i)]) := by
  intro q hq; split
  ·exact hq
  ·exact List.mem_append_left _ hq
 refine ⟨fun sg g h => ?_, fun m d' hm hd' => ?_, fun q hq => ?_, ?_⟩
 ·obtain ⟨h1, h2⟩ := p.own sg g h; exact ⟨Nat.lt_succ_of_lt h1, h2⟩
 ·by_cases h : m = i
  ·subst h
   rw [hd] at hd'; cases hd'
   refine ⟨f, hf, ?_⟩
   by_cases q : hs[f]? = hs[m]?
   ·exact .inl q
   ·rw [if_neg q]; exact .inr (List.mem_append_right _ (.head _))
  ·obtain ⟨g, h1, h2⟩ := p.all m d' (Nat.lt_of_le_of_ne (Nat.le_of_lt_succ hm) h) hd'
   exact ⟨g, h1, h2.imp id (hw _)⟩
 ·split at hq
  ·exact p.wish q hq
  ·rename_i hne
   rcases List.mem_append.mp hq with h | h
   ·exact p.wish q h
   ·rw [List.mem_singleton] at h
    subst h
    exact ⟨⟨e, d, he, hd, hse⟩, hne⟩
 ·have := p.few
  split
  ·exact ⟨Nat.le_succ_of_le this.1, Nat.le_succ_of_le this.2⟩
  ·rw [len_snoc]; exact ⟨Nat.succ_le_succ this.1, Nat.le_succ_of_le this.2⟩
theorem pass_new {N : List Nd} {hs : List Nat} {i : Nat} {fs : List (Nd × Nat)} {ws : List Pr} (p : Pass N hs i fs ws) {d : Nd} (hd : N[i]? = some d) (hf : fs.lookup (sgH hs d) = none) : Pass N hs (i + 1) (fs ++ [(sgH hs d, i)]) ws := by
 refine ⟨fun sg g h => ?_, fun m d' hm hd' => ?_, p.wish, by rw [len_snoc]; exact ⟨Nat.le_succ_of_le p.few.1, Nat.succ_le_succ p.few.2⟩⟩
 ·rcases lookup_app2 h with h | ⟨rfl, rfl⟩
  ·obtain ⟨h1, h2⟩ := p.own sg g h; exact ⟨Nat.lt_succ_of_lt h1, h2⟩
  ·exact ⟨Nat.lt_succ_self _, d, hd, rfl⟩
 ·by_cases h : m = i
  ·subst h
   rw [hd] at hd'; cases hd'
   exact ⟨m, lookup_self hf, .inl rfl⟩
  ·obtain ⟨g, h1, h2⟩ := p.all m d' (Nat.lt_of_le_of_ne (Nat.le_of_lt_succ hm) h) hd'
   exact ⟨g, lookup_app h1, h2⟩
/-- a wish of the pass is a likeness -/
theorem wish_cl {N : List Nd} {P : List Pr} {hs : List Nat} (H : Hom N P hs) (hk : ∀ d ∈ N, ∀ k ∈ d.2, k < N.length) {x y : Nat} {d e : Nd} (hx : N[x]? = some d) (hy : N[y]? = some e) (hq : sgH hs d = sgH hs e) : Cl N P x y := by
 have h1 : (sgH hs d).1 = (sgH hs e).1 := congrArg Prod.fst hq
 have h2 : (sgH hs d).2 = (sgH hs e).2 := congrArg Prod.snd hq
 have h1 : d.1 = e.1 := h1
 have h2 : (d.2.map fun k => (hs[k]?).getD 0) = e.2.map fun k => (hs[k]?).getD 0 := h2
 have h3 : d.2.length = e.2.length := by simpa using congrArg List.length h2
 refine .cong hx hy h1 h3 fun i u v hu hv => ?_
 have h4 := congrArg (fun l => l[i]?) h2
 simp only [List.getElem?_map, hu, hv, Option.map_some, Option.some.injEq] at h4
 have hul : u < hs.length := by rw [H.len]; exact hk d (List.mem_of_getElem? hx) u (List.mem_of_getElem? hu)
 have hvl : v < hs.length := by rw [H.len]; exact hk e (List.mem_of_getElem? hy) v (List.mem_of_getElem? hv)
 have eu := List.getElem?_eq_getElem hul
 have ev := List.getElem?_eq_getElem hvl
 rw [eu, ev] at h4
 simp only [Option.getD_some] at h4
 have cu := (H.cl u _ eu).2
 have cv := (H.cl v _ ev).2
 rw [h4] at cu
 exact cu.trans cv.symm
/-- no wish left and all pairs done: the labels are the least likeness -/
theorem hom_done {N : List Nd} {P : List Pr} {hs : List Nat} (H : Hom N P hs) (hP : ∀ p ∈ P, hs[p.1]? = hs[p.2]?)
  (hc : ∀ (x y : Nat) (d e : Nd), N[x]? = some d → N[y]? = some e → sgH hs d = sgH hs e → hs[x]? = hs[y]?) {x y : Nat} (hx : x < N.length) (hy : y < N.length) : hs[x]? = hs[y]? ↔ Cl N P x y := by
 constructor
 ·intro h
  have e1 := List.getElem?_eq_getElem (show x < hs.length by rw [H.len]; exact hx)
  have e2 := List.getElem?_eq_getElem (show y < hs.length by rw [H.len]; exact hy)
  have c1 := (H.cl x _ e1).2
  have c2 := (H.cl y _ e2).2
  rw [e1, e2] at h
  injection h with h
  rw [h] at c1
  exact c1.trans c2.symm
 ·intro h
  refine Cl.least (R := fun x y => hs[x]? = hs[y]?) (fun _ => rfl) (fun _ _ h => h.symm) (fun _ _ _ h g => h.trans g) (fun x y m => hP (x, y) m) (fun x y d e h1 h2 h3 h4 h5 => ?_) h
  refine hc x y d e h1 h2 ?_
  unfold sgH
  rw [h3]
  congr 1
  apply List.ext_getElem?
  intro i
  rw [List.getElem?_map, List.getElem?_map]
  cases hu : d.2[i]? with
  | none =>
   have : e.2[i]? = none := by rw [List.getElem?_eq_none_iff] at hu ⊢; rw [← h4]; exact hu
   rw [this]
  | some u =>
   have hi : i < e.2.length := by rw [← h4]; exact (List.getElem?_eq_some_iff.mp hu).1
   rw [List.getElem?_eq_getElem hi]
   simp only [Option.map_some]
   rw [h5 i u _ hu (List.getElem?_eq_getElem hi)]
theorem pass_done {N : List Nd} {hs : List Nat} {fs : List (Nd × Nat)} (p : Pass N hs N.length fs []) : ∀ (x y : Nat) (d e : Nd), N[x]? = some d → N[y]? = some e → sgH hs d = sgH hs e → hs[x]? = hs[y]? := by
 intro x y d e hx hy h
 obtain ⟨f, h1, h2⟩ := p.all x d (List.getElem?_eq_some_iff.mp hx).1 hx
 obtain ⟨g, h3, h4⟩ := p.all y e (List.getElem?_eq_some_iff.mp hy).1 hy
 rw [h, h3] at h1
 cases h1
 rcases h2 with h2 | h2
 ·rcases h4 with h4 | h4
  ·exact h2.symm.trans h4
  ·cases h4
 ·cases h2
theorem hom_start (N : List Nd) (P : List Pr) : Hom N P (List.range N.length) := ⟨by simp, fun x h hx => by
 rw [List.getElem?_eq_some_iff] at hx
 obtain ⟨h1, h2⟩ := hx
 rw [List.length_range] at h1
 rw [List.getElem_range] at h2
 subst h2
 exact ⟨h1, .refl _⟩⟩
theorem range_done {N : List Nd} (hn : N.Nodup) (hk : ∀ d ∈ N, ∀ k ∈ d.2, k < N.length) : ∀ (x y : Nat) (d e : Nd), N[x]? = some d → N[y]? = some e → sgH (List.range N.length) d = sgH (List.range N.length) e → (List.range N.length)[x]? = (List.range N.length)[y]? := by
 intro x y d e hx hy h
 have hid : ∀ d ∈ N, sgH (List.range N.length) d = d := by
  intro d hd
  unfold sgH
  have : (d.2.map fun k => ((List.range N.length)[k]?).getD 0) = d.2 := by
   rw [List.map_congr_left (g := id) (fun k hk' => by rw [List.getElem?_eq_getElem (by simpa using hk d hd k hk')]; simp)]
   simp
  rw [this]
 rw [hid d (List.mem_of_getElem? hx), hid e (List.mem_of_getElem? hy)] at h
 subst h
 have := (List.getElem?_inj (List.getElem?_eq_some_iff.mp hx).1 hn).mp (hx.trans hy.symm)
 rw [this]
set_option tactic.hygienic true
theorem listOf_push {v : V} {μ : Mem} {xs : List V} (h : listOf v μ = some xs) (o : O) : listOf v (μ ++ [o]) = some xs := by
 cases v with
 | ref k => exact lstAt_of ((List.getElem?_append_left (List.getElem?_eq_some_iff.mp (of_lstAt h)).1).trans (of_lstAt h))
 | _ => exact h
theorem get_push {μ : Mem} {k : Nat} {o o' : O} (h : μ[k]? = some o) : (μ ++ [o'])[k]? = some o := by
 rw [List.getElem?_append_left (List.getElem?_eq_some_iff.mp h).1]; exact h
theorem flat_ref {μ : Mem} {k : Nat} {xs : List V} (h : μ[k]? = some (.lst xs)) : flat (.ref k) μ = .lst xs := congrArg (fun o => (o.map V.lst).getD (V.ref k)) (lstAt_of h)
theorem veq_nil {μ : Mem} {wi ni : Nat} {ws : List Pr} (h1 : μ[wi]? = some (.lst (ws.map prV))) (h2 : μ[ni]? = some (.lst [])) : veq (.ref wi) (.ref ni) μ (decide (ws = [])) :=
 ⟨(congrArg (V.pureN 5) (flat_ref h1)).trans (prs_pure 2 ws), congrArg (V.pureN 5) (flat_ref h2), (show decide (ws = []) = PyData.eqv (V.lst (ws.map prV)).py (V.lst []).py by cases ws <;> rfl).trans (congr (congrArg (fun v => PyData.eqv (V.py v)) (flat_ref h1).symm) (congrArg V.py (flat_ref h2).symm))⟩
theorem sof_list {v : V} {μ : Mem} {xs : List V} {Q : Src → Mem → Prop} (h : listOf v μ = some xs) (q : ∀ sr : Src, (∀ i, sr.at i μ = some (xs[i]?.map fun v => sr.wrap i v)) → (∀ i v, sr.wrap i v = v) → (∀ t, okT sr t = true) → Q sr μ) : W2 (sof v μ) Q := by
 cases v with
 | lst ys => cases (show some ys = some xs from h); exact w_sofL (q _ (fun i => at_vals) (fun _ _ => rfl) fun _ => rfl)
 | ref k => exact w_sofR (of_lstAt h) (q _ (fun i => at_ref (of_lstAt h)) (fun _ _ => rfl) fun _ => rfl)
 | _ => exact nn h
theorem key_pure (d : Nd) (hs : List Nat) : V.tup ([.str d.1] ++ (d.2.map fun k => nv ((hs[k]?).getD 0))) = ndV (sgH hs d) := by simp [ndV, sgH, Function.comp_def]
inductive Iv11 (N : List Nd) (P : List Pr) (x y : Nat) (μ : Mem) (j : Nat) (ρ : Loc) (μ' : Mem) : Prop
 | mk (hs : List Nat) (ws : List Pr) (hv : V) (wi : Nat) (_ : Grow μ μ') (_ : Lk ρ [("nodes", .lst (N.map ndV)), ("a", nv x), ("b", nv y), ("homes", hv), ("wishes", .ref wi)]) (_ : listOf hv μ' = some (hs.map nv)) (_ : μ'[wi]? = some (.lst (ws.map prV))) (_ : Hom N P hs) (_ : (∀ p ∈ ws, p.1 < N.length ∧ p.2 < N.length ∧ Cl N P p.1 p.2)) (_ : ws.length ≤ 40) (_ : ((ws = P ∧ hs = List.range N.length ∧ j = 20) ∨ ((∀ p ∈ P, hs[p.1]? = hs[p.2]?) ∧ (∃ fs, Pass N hs N.length fs ws) ∧ hs.sum < j ∧ j ≤ 20))) : Iv11 N P x y μ j ρ μ'
inductive Iv12 (N : List Nd) (P : List Pr) (x y : Nat) (μ : Mem) (hs : List Nat) (ws : List Pr) (wi : Nat) (ρ : Loc) (μ'' : Mem) : Prop
 | mk (hs2 : List Nat) (_ : Grow μ μ'') (_ : Lk ρ [("nodes", .lst (N.map ndV)), ("a", nv x), ("b", nv y), ("homes", .lst (hs2.map nv)), ("wishes", .ref wi)]) (_ : Hom N P hs2) (_ : (∀ u v : Nat, hs[u]? = hs[v]? → hs2[u]? = hs2[v]?)) (_ : (∀ p ∈ ws, hs2[p.1]? = hs2[p.2]?)) (_ : hs2.sum ≤ hs.sum) (_ : (∀ p, ws[0]? = some p → hs[p.1]? ≠ hs[p.2]? → hs2.sum < hs.sum)) : Iv12 N P x y μ hs ws wi ρ μ''
inductive Iv13 (N : List Nd) (P : List Pr) (x y : Nat) (μ : Mem) (hs : List Nat) (ws : List Pr) (wi : Nat) (i : Nat) (ρ : Loc) (μ'' : Mem) : Prop
 | mk (hs2 : List Nat) (hv2 : V) (_ : Grow μ μ'') (_ : μ''[wi]? = some (.lst (ws.map prV))) (_ : Lk ρ [("nodes", .lst (N.map ndV)), ("a", nv x), ("b", nv y), ("homes", hv2), ("wishes", .ref wi)]) (_ : listOf hv2 μ'' = some (hs2.map nv)) (_ : (0 < i → hv2 = .lst (hs2.map nv))) (_ : (i = 0 → hs2 = hs)) (_ : Hom N P hs2) (_ : (∀ u v : Nat, hs[u]? = hs[v]? → hs2[u]? = hs2[v]?)) (_ : (∀ p ∈ ws.take i, hs2[p.1]? = hs2[p.2]?)) (_ : hs2.sum ≤ hs.sum) (_ : (∀ p, ws[0]? = some p → hs[p.1]? ≠ hs[p.2]? → 0 < i → hs2.sum < hs.sum)) : Iv13 N P x y μ hs ws wi i ρ μ''
inductive Iv14 (N : List Nd) (x y : Nat) (μ : Mem) (hs2 : List Nat) (wj fj : Nat) (i : Nat) (ρ : Loc) (μ5 : Mem) : Prop
 | mk (fs : List (Nd × Nat)) (ws2 : List Pr) (_ : Grow μ μ5) (_ : Lk ρ [("nodes", .lst (N.map ndV)), ("a", nv x), ("b", nv y), ("homes", .lst (hs2.map nv)), ("wishes", .ref wj), ("firsts", .ref fj)]) (_ : μ5[fj]? = some (.dict (fs.map knV))) (_ : μ5[wj]? = some (.lst (ws2.map prV))) (_ : Pass N hs2 i fs ws2) : Iv14 N x y μ hs2 wj fj i ρ μ5
theorem hare {N : List Nd} {P : List Pr} (hN5 : N.length ≤ 5) (hnd : N.Nodup) (hk : ∀ d ∈ N, d.2.length ≤ 2 ∧ ∀ k ∈ d.2, k < N.length) (hP : ∀ p ∈ P, p.1 < N.length ∧ p.2 < N.length) (hPl : P.length ≤ 40) {x y : Nat} (hx : x < N.length) (hy : y < N.length) (n : Nat) {μ : Mem} {Q : V → Mem → Prop}
  (q : ∀ μ', Grow μ μ' → Q (.bool (likeB N P x y)) μ') : W2 (callD (n + 250) Str.empty (nthM 16 0) [.lst (N.map ndV), .lst (P.map prV), nv x, nv y] μ) Q := by
 have hk2 : ∀ d ∈ N, ∀ k ∈ d.2, k < N.length := fun d hd => (hk d hd).2
 conv => arg 1; arg 3; whnf
 walk_at "w"
 refine w_assT rfl rfl ?_
 walk_at "w"
 refine w_bltn rfl (w_len (xs := N.map ndV) rfl (by rw [List.length_map]; unfold limit; exact Nat.lt_of_le_of_lt (by assumption) (by decide)) ?_)
 walk_at "w"
 refine w_bltn rfl (w_rng1 ?_)
 walk_at "w"
 refine w_bltn rfl (w_listR (by rw [List.length_map]; exact okRng_small (by decide) (by decide) (Int.natCast_nonneg _) (Int.ofNat_le.mpr (Nat.le_trans hN5 (by decide)))) ?_)
 have hr : rngItems 0 ((N.map ndV).length : Nat) = (List.range N.length).map nv := by
  unfold rngItems
  rw [List.length_map]
  simp
 rw [hr]
 walk_at "w"
 refine w_bltn rfl (w_listL (xs := P.map prV) rfl (by rw [List.length_map]; unfold limit; exact Nat.lt_of_le_of_lt (by assumption) (by decide)) ?_)
 walk_at "w"
 refine iM nofun ?_
 walk_at "w"
 have hsumr : (List.range N.length).sum ≤ 10 := by
  have : ∀ n, n < 6 → (List.range n).sum ≤ 10 := by decide
  exact this _ (Nat.lt_succ_of_le hN5)
 refine w_whl (I := Iv11 N P x y μ) ?_ 20 _ _
  ⟨List.range N.length, P, _, _, (Grow.push _ _).trans (Grow.push _ _), .cons rfl (.cons rfl (.cons rfl (.cons rfl (.cons rfl (.nil _))))), listOf_push (listOf_ref (get_new _ _)) _, get_new _ _, hom_start N P, fun p hp => ⟨(hP p hp).1, (hP p hp).2, .told hp⟩, hPl, .inl ⟨rfl, rfl, rfl⟩⟩
 rintro j ρ μ' ⟨hs, ws, hv, wi, G, L, hhv, hwi, H, hwN, hwl, hst⟩
 have hsl : hs.length ≤ 8 := by rw [H.len]; exact Nat.le_trans (by assumption) (Nat.le_add_left _ _)
 walk_at "w"
 refine w_ne (veq_nil (get_push hwi) (get_new _ _)) ?_
 by_cases hws : ws = []
 ·subst hws
  refine iJ rfl ?_
  have hxl : x < hs.length := by rw [H.len]; exact hx
  have hyl : y < hs.length := by rw [H.len]; exact hy
  walk_at "w"
  refine w_idxL (listOf_push hhv _) (getI_map (List.getElem?_eq_getElem hxl) hsl) ?_
  walk_at "w"
  refine w_idxL (listOf_push hhv _) (getI_map (List.getElem?_eq_getElem hyl) hsl) ?_
  walk_at "w"
  have hd : (hs[x]? = hs[y]?) ↔ Cl N P x y := by
   rcases hst with ⟨h1, rfl, _⟩ | ⟨h1, ⟨fs, h2⟩, _⟩
   ·exact hom_done H (fun p hp => by rw [← h1] at hp; cases hp) (range_done hnd hk2) hx hy
   ·exact hom_done H h1 (pass_done h2) hx hy
  have e : decide (((hs[x] : Nat) : Int) = hs[y]) = likeB N P x y := by
   rw [Bool.eq_iff_iff, likeB_iff, ← hd, List.getElem?_eq_getElem hxl, List.getElem?_eq_getElem hyl]
   exact decide_eq_true_iff.trans (Int.ofNat_inj.trans ⟨congrArg some, Option.some.inj⟩)
  rw [e]
  exact q _ (G.trans (Grow.push _ _))
 ·refine iK hws ?_
  have hwpos : 0 < ws.length := List.length_pos_iff.mpr hws
  walk_at "e"
  refine ex_mono (Q := fun fl ρ μ'' => fl = Fl.next ∧ Iv12 N P x y μ hs ws wi ρ μ'') ?_ ?_
  ·walk_at "e"
   refine w_src ?_
   walk_at "w"
   refine w_sofR (xs := ws.map prV) (get_push hwi) ?_
   refine w_fr (ws.map prV) rfl (Iv13 N P x y μ hs ws wi) ?_ ?_ ?_
     ⟨hs, hv, G.trans (Grow.push _ _), get_push hwi, L, listOf_push hhv _, fun h => absurd h (Nat.lt_irrefl _), fun _ => rfl, H, fun _ _ h => h, fun p hp => by simp at hp, Nat.le_refl _, fun _ _ _ h => by exact absurd (by assumption) (Nat.not_lt_zero _)⟩
   ·rintro i ρ μ'' _ ⟨hs2, hv2, _, h, _⟩
    exact at_ref h
   ·rintro i v ρ μ'' hv' ⟨hs2, hv2, G2, hwi2, L2, hhv2, _, hi0, H2, hkeep, hdone, hsum, hstr⟩
    rw [List.getElem?_map] at hv'
    obtain ⟨p, hp, rfl⟩ := Option.map_eq_some_iff.mp hv'
    have hpm := List.mem_of_getElem? hp
    obtain ⟨p1, p2, pc⟩ := hwN p hpm
    have l1 : p.1 < hs2.length := by rw [H2.len]; exact p1
    have l2 : p.2 < hs2.length := by rw [H2.len]; exact p2
    have hl8 : hs2.length ≤ 8 := by rw [H2.len]; exact Nat.le_trans (by assumption) (Nat.le_add_left _ _)
    have e1 := List.getElem?_eq_getElem l1
    have e2 := List.getElem?_eq_getElem l2
    have U := unify_hom H2 e1 e2 pc
    generalize hs2[p.1] = a at *
    generalize hs2[p.2] = b at *
    refine w_stuple rfl ?_
    show W1 (itemsOf (.tup [nv p.1, nv p.2]) _) _
    walk_at "w"
    refine w_idxL hhv2 (getI_map e1 hl8) ?_
    walk_at "w"
    refine w_idxL hhv2 (getI_map e2 hl8) ?_
    walk_at "w"
    refine w_bltn rfl (w_sorted (xs := [nv a, nv b]) (is := [(a : Int), b]) (listOf_ref (get_new _ _)) rfl (by show 2 < 64; decide) ?_)
    rw [sort2]
    walk_at "w"
    rename_i L3
    refine w_assC rfl rfl (w_src ?_)
    walk_at "w"
    refine sof_list (listOf_push hhv2 (.lst [nv a, nv b])) fun sr hat hwrap hok => ?_
    have L4 := L3.capt (sc := ⟨.function, [(".0", .local), ("home", .local), ("high", .free), ("low", .free)], false, false, []⟩) rfl [("low", nv (min a b)), ("high", nv (max a b))] rfl (Lk.cons rfl (Lk.cons rfl (Lk.nil _)))
    have L5 := L3.sub (l' := [("nodes", .lst (N.map ndV)), ("a", nv x), ("b", nv y), ("wishes", .ref wi), ("homes", hv2)]) (Lk.cons rfl (Lk.cons rfl (Lk.cons rfl (Lk.cons rfl (Lk.cons rfl (Lk.nil _))))))
    refine w_cmp (hs2.map nv) (hok _) (fun i acc ρ μ3 => μ3 = μ'' ++ [.lst [nv a, nv b]] ∧ acc = ((hs2.take i).map fun z => if z = max a b then min a b else z).map nv ∧ Lk ρ [("low", nv (min a b)), ("high", nv (max a b))]) (fun i acc ρ μ3 _ hi => by rw [hi.1]; exact hat i) ?_ ?_ ⟨rfl, rfl, L4⟩
    ·rintro i9 v acc ρ9 μ3 hv9 ⟨rfl, rfl, L6⟩
     rw [List.getElem?_map] at hv9
     obtain ⟨z, hz, rfl⟩ := Option.map_eq_some_iff.mp hv9
     have hi9 : i9 < hs2.length := (List.getElem?_eq_some_iff.mp hz).1
     rw [hwrap]
     walk_at "w"
     refine iP rfl ?_
     walk_at "w"
     have hlen : (((hs2.take i9).map fun z => if z = max a b then min a b else z).map nv).length < limit := by
      rw [List.length_map, List.length_map, List.length_take]; unfold limit; exact Nat.lt_of_le_of_lt (Nat.le_trans (Nat.min_le_right _ _) hl8) (by decide)
     rename_i L7
     by_cases hzm : z = max a b
     ·have : ((z : Nat) : Int) = ((max a b : Nat) : Int) := by exact_mod_cast hzm
      refine iD this ?_
      walk_at "w"
      refine ⟨hlen, rfl, ?_, L7.sub (Lk.cons rfl (Lk.cons rfl (Lk.nil _)))⟩
      rw [List.take_add_one, hz]; simp [hzm]
     ·have : ¬ ((z : Nat) : Int) = ((max a b : Nat) : Int) := by exact_mod_cast hzm
      refine iN this ?_
      walk_at "w"
      refine ⟨hlen, rfl, ?_, L7.sub (Lk.cons rfl (Lk.cons rfl (Lk.nil _)))⟩
      rw [List.take_add_one, hz]; simp [hzm]
    ·rintro acc ρ9 μ3 ⟨rfl, rfl, _⟩
     rw [List.length_map, List.take_length]
     walk_at "w"
     rename_i L7
     refine .inl ⟨rfl, unify hs2 (min a b) (max a b), _, G2.trans (Grow.push _ _), get_push hwi2, L7.sub (Lk.cons rfl (Lk.cons rfl (Lk.cons rfl (Lk.cons rfl (Lk.cons rfl (Lk.nil _)))))), rfl, fun _ => rfl, fun h => by lia, U.1, fun u v h => U.2.1 u v (hkeep u v h), ?_, Nat.le_trans U.2.2.2.1 hsum, ?_⟩
     ·intro z hz
      rw [List.take_add_one, hp] at hz
      rcases List.mem_append.mp hz with h | h
      ·exact U.2.1 _ _ (hdone z h)
      ·have : z = p := by simpa using h
       rw [this]; exact U.2.2.1
     ·intro p0 hp0 hne _
      by_cases hi : i = 0
      ·have h0 := hi0 hi
       rw [hi] at hp
       rw [hp] at hp0
       cases hp0
       have hab : a ≠ b := by
        intro e
        rw [← h0, e1, e2, e] at hne
        exact hne rfl
       exact h0 ▸ U.2.2.2.2 hab
      ·exact Nat.lt_of_le_of_lt U.2.2.2.1 (hstr p0 hp0 hne (Nat.pos_of_ne_zero hi))
   ·rintro ρ μ'' ⟨hs2, hv2, G2, _, L2, hhv2, hpos, _, H2, hkeep, hdone, hsum, hstr⟩
    rw [List.length_map] at hpos hdone hstr
    rw [List.take_length] at hdone
    have h := hpos hwpos
    subst h
    exact ⟨rfl, hs2, G2, L2, H2, hkeep, hdone, hsum, fun p h1 h2 => hstr p h1 h2 hwpos⟩
  ·rintro _ ρ μ'' ⟨rfl, hs2, G2, L2, H2, hkeep, hdone, hsum, hstr⟩
   have hl8 : hs2.length ≤ 8 := by rw [H2.len]; exact Nat.le_trans (by assumption) (Nat.le_add_left _ _)
   walk_at "e"
   walk_at "e"
   refine w_assT rfl rfl ?_
   walk_at "w"
   refine w_dict0 ?_
   walk_at "w"
   simp only [if_true, List.reverse_cons, List.reverse_nil, List.nil_append, List.cons_append]
   walk_at "w"
   rename_i L3
   have G3 : Grow μ (μ'' ++ [.dict []] ++ [.lst []]) := (G2.trans (Grow.push _ _)).trans (Grow.push _ _)
   have L4 := L3.sub (l' := [("nodes", .lst (N.map ndV)), ("a", nv x), ("b", nv y), ("homes", .lst (hs2.map nv)), ("wishes", .ref (μ'' ++ [O.dict []]).length), ("firsts", .ref μ''.length)]) (Lk.cons rfl (Lk.cons rfl (Lk.cons rfl (Lk.cons rfl (Lk.cons rfl (Lk.cons rfl (Lk.nil _)))))))
   clear L3
   have gf : (μ'' ++ [O.dict []] ++ [O.lst []])[μ''.length]? = some (.dict []) := get_push (get_new _ _)
   have gw : (μ'' ++ [O.dict []] ++ [O.lst []])[(μ'' ++ [O.dict []]).length]? = some (.lst []) := get_new _ _
   have hfw : μ''.length ≠ (μ'' ++ [O.dict []]).length := by simp
   have hbf : μ.length ≤ μ''.length := G2.len
   have hbw : μ.length ≤ (μ'' ++ [O.dict []]).length := by simp; solve_by_elim (maxDepth := 3) only [*, Nat.lt_of_lt_of_le, Nat.lt_of_le_of_lt, Nat.lt_trans, Nat.le_trans]
   generalize μ'' ++ [O.dict []] ++ [O.lst []] = μ4 at *
   generalize (μ'' ++ [O.dict []]).length = wj at *
   generalize μ''.length = fj at *
   refine w_srcEnum rfl ?_
   walk_at "w"
   refine ⟨_, rfl, ?_⟩
   show W3 _ _
   refine w_fr (N.map ndV) ?hk (Iv14 N x y μ hs2 wj fj)
    (fun i ρ μ5 _ _ => at_enumv) ?_ ?_ ⟨[], [], G3, L4, gf, gw, pass_zero N hs2⟩
   case hk => rfl
   ·rintro i v ρ μ5 hv' ⟨fs, ws2, G5, L5, gf5, gw5, P5⟩
    rw [List.getElem?_map] at hv'
    obtain ⟨d, hd, rfl⟩ := Option.map_eq_some_iff.mp hv'
    have hi : i < N.length := (List.getElem?_eq_some_iff.mp hd).1
    have hdm := List.mem_of_getElem? hd
    have hkd := hk d hdm
    refine w_stuple rfl ?_
    show W1 (itemsOf (.tup [nv i, ndV d]) _) _
    walk_at "w"
    rename_i L6
    refine w_methD gf5 ?_
    walk_at "w"
    refine w_idxT rfl ?_
    walk_at "w"
    refine w_comp rfl (w_src ?_)
    walk_at "w"
    refine w_evo1 ?_
    walk_at "w"
    refine ⟨1, rfl, ?_⟩
    walk_at "w"
    refine w_slT (by simp only [List.length_cons, List.length_map]; unfold limit; exact Nat.lt_of_le_of_lt (Nat.succ_le_succ hkd.1) (by decide)) ⟨Int.le_refl _, (Int.ofNat_le (m := 1)).mpr (Nat.succ_le_succ (Nat.zero_le _))⟩ ?_
    refine w_sofT ?_
    have L7 := L6.capt (sc := ⟨.function, [(".0", .local), ("kid", .local), ("homes", .free)], false, false, []⟩) rfl [("homes", .lst (hs2.map nv))] rfl (Lk.cons rfl (Lk.nil _))
    refine w_map (d.2.map nv) (liftN fun k => nv ((hs2[k]?).getD 0)) rfl (by rw [List.length_map]; exact Nat.le_trans hkd.1 (by decide)) ?_ (fun ρ => ?_)
    ·intro v hv'
     obtain ⟨k, hk', rfl⟩ := List.mem_map.mp hv'
     have L8 := L7.upd ("kid" : Str) (nv k) rfl
     have hkl : k < hs2.length := by rw [H2.len]; exact hkd.2 k hk'
     walk_at "w"
     refine w_idxL rfl (getI_map (List.getElem?_eq_getElem hkl) hl8) ?_
     refine ⟨?_, rfl⟩
     show nv hs2[k] = nv ((hs2[k]?).getD 0)
     rw [List.getElem?_eq_getElem hkl]; rfl
    ·rw [map_liftN]
     walk_at "w"
     refine w_bltn rfl (w_tupL (by rw [List.length_map]; unfold limit; exact Nat.lt_of_le_of_lt hkd.1 (by decide)) ?_)
     refine w_addT (by simp only [List.length_map, List.length_cons, List.length_nil]; unfold limit; exact Nat.lt_of_le_of_lt (Nat.add_le_add_left hkd.1 1) (by decide)) ?_
     rw [key_pure]
     walk_at "w"
     show W2 (dictC fj "setdefault" [ndV (sgH hs2 d), nv i] μ5) _
     have hfl := P5.few
     have hde := dget_known fs (sgH hs2 d)
     have hil : i < hs2.length := by rw [H2.len]; exact hi
     refine w_setdef gf5 (by rw [okKey_known]; simp only [Bool.true_and, List.length_map, decide_eq_true_eq]; unfold limit; exact Nat.lt_of_le_of_lt hfl.2 (Nat.lt_trans hi (Nat.lt_of_le_of_lt hN5 (by decide)))) ?_
     cases hlk : fs.lookup (sgH hs2 d) with
     | none =>
      rw [hlk] at hde
      have hde : dget (fs.map knV) (ndV (sgH hs2 d)) = none := hde
      rw [hde, dput_new _ hde]
      have e7 : fs.map knV ++ [(ndV (sgH hs2 d), nv i)] = (fs ++ [(sgH hs2 d, i)]).map knV := by simp [knV]
      rw [e7]
      have gf6 : (μ5.set fj (.dict ((fs ++ [(sgH hs2 d, i)]).map knV)))[fj]? = some (.dict ((fs ++ [(sgH hs2 d, i)]).map knV)) := set_get gf5
      have gw6 : (μ5.set fj (.dict ((fs ++ [(sgH hs2 d, i)]).map knV)))[wj]? = some (.lst (ws2.map prV)) := by rw [set_get_ne hfw]; exact gw5
      have G6 : Grow μ (μ5.set fj (.dict ((fs ++ [(sgH hs2 d, i)]).map knV))) := G5.set hbf _
      generalize μ5.set fj (.dict ((fs ++ [(sgH hs2 d, i)]).map knV)) = μ6 at *
      clear L7
      walk_at "w"
      refine w_idxL rfl (getI_map (List.getElem?_eq_getElem hil) hl8) ?_
      walk_at "w"
      refine w_idxL rfl (getI_map (List.getElem?_eq_getElem hil) hl8) ?_
      walk_at "w"
      refine iJ rfl ?_
      walk_at "w"
      rename_i L9
      exact .inl ⟨rfl, fs ++ [(sgH hs2 d, i)], ws2, G6, L9.sub (Lk.cons rfl (Lk.cons rfl (Lk.cons rfl (Lk.cons rfl (Lk.cons rfl (Lk.cons rfl (Lk.nil _))))))), gf6, gw6, pass_new P5 hd hlk⟩
     | some f =>
      rw [hlk] at hde
      have hde : dget (fs.map knV) (ndV (sgH hs2 d)) = some (nv f) := hde
      rw [hde]
      have hfN := (P5.own _ _ hlk).1
      have hfl2 : f < hs2.length := by rw [H2.len]; exact Nat.lt_trans hfN hi
      have P6 := pass_old P5 hd hlk
      clear L7
      walk_at "w"
      refine w_idxL rfl (getI_map (List.getElem?_eq_getElem hfl2) hl8) ?_
      walk_at "w"
      refine w_idxL rfl (getI_map (List.getElem?_eq_getElem hil) hl8) ?_
      walk_at "w"
      rename_i L9
      rw [List.getElem?_eq_getElem hfl2, List.getElem?_eq_getElem hil] at P6
      by_cases heq : hs2[f] = hs2[i]
      ·have : ((hs2[f] : Nat) : Int) = hs2[i] := by exact_mod_cast heq
       refine iJ this ?_
       walk_at "w"
       rw [if_pos (by rw [heq])] at P6
       exact .inl ⟨rfl, fs, ws2, G5, L9.sub (Lk.cons rfl (Lk.cons rfl (Lk.cons rfl (Lk.cons rfl (Lk.cons rfl (Lk.cons rfl (Lk.nil _))))))), gf5, gw5, P6⟩
      ·have : ¬ ((hs2[f] : Nat) : Int) = hs2[i] := by exact_mod_cast heq
       refine iK this ?_
       walk_at "w"
       refine w_methL gw5 ?_
       walk_at "w"
       refine w_append gw5 (by rw [List.length_map]; unfold limit; exact Nat.lt_of_le_of_lt hfl.1 (Nat.lt_trans hi (Nat.lt_of_le_of_lt hN5 (by decide)))) ?_
       walk_at "w"
       rw [if_neg (fun q => heq (by injection q))] at P6
       refine .inl ⟨rfl, fs, ws2 ++ [(f, i)], G5.set hbw _, L9.sub (Lk.cons rfl (Lk.cons rfl (Lk.cons rfl (Lk.cons rfl (Lk.cons rfl (Lk.cons rfl (Lk.nil _))))))), ?_, ?_, P6⟩
       ·rw [set_get_ne (Ne.symm hfw)]; exact gf5
       ·rw [set_get gw5]; simp [prV]
   ·rintro ρ μ5 ⟨fs, ws2, G5, L5, gf5, gw5, P5⟩
    rw [List.length_map] at P5
    walk_at "w"
    have hwish : ∀ p ∈ ws2, p.1 < N.length ∧ p.2 < N.length ∧ Cl N P p.1 p.2 := by
     intro p hp
     obtain ⟨⟨d, e, h1, h2, h3⟩, _⟩ := P5.wish p hp
     exact ⟨(List.getElem?_eq_some_iff.mp h1).1, (List.getElem?_eq_some_iff.mp h2).1, wish_cl H2 hk2 h1 h2 h3⟩
    have hmerged : ∀ p ∈ P, hs2[p.1]? = hs2[p.2]? := by
     intro p hp
     rcases hst with ⟨h1, _, _⟩ | ⟨h1, _⟩
     ·exact hdone p (by rw [h1]; exact hp)
     ·exact hkeep _ _ (h1 p hp)
    have hless : hs2.sum + 1 < j := by
     rcases hst with ⟨_, h2, h3⟩ | ⟨h1, ⟨fs', h2⟩, h3, _⟩
     ·rw [h2] at hsum; exact Nat.lt_of_le_of_lt (Nat.succ_le_succ (Nat.le_trans hsum hsumr)) (by rw [h3]; decide)
     ·obtain ⟨p0, hp0⟩ : ∃ p0, ws[0]? = some p0 := ⟨_, List.getElem?_eq_getElem hwpos⟩
      have := hstr p0 hp0 (h2.wish p0 (List.mem_of_getElem? hp0)).2
      exact Nat.lt_of_le_of_lt this h3
    have hj20 : j ≤ 20 := hst.elim (fun h => Nat.le_of_eq h.2.2) (fun h => h.2.2.2)
    exact .inl ⟨hs2.sum + 1, hless, rfl, hs2, ws2, .lst (hs2.map nv), wj, G5, L5.sub (Lk.cons rfl (Lk.cons rfl (Lk.cons rfl (Lk.cons rfl (Lk.cons rfl (Lk.nil _)))))), rfl, gw5, H2, hwish, Nat.le_trans P5.few.1 (Nat.le_trans hN5 (by decide)), .inr ⟨hmerged, ⟨fs, P5⟩, Nat.lt_succ_self _, Nat.le_trans (Nat.le_of_lt hless) hj20⟩⟩
theorem w_frF {n : Nat} {h : Here} {R : Fl → Loc → Mem → Prop} {t : Expr} {b : List Stmt} {s : Src} (xs : List V) (I : Nat → Loc → Mem → Prop) (hk : okT s t = true) (hat : ∀ i ρ μ, i ≤ xs.length → I i ρ μ → s.at i μ = some (xs[i]?.map fun v => s.wrap i v))
  (step : ∀ i v ρ μ, xs[i]? = some v → I i ρ μ → W2 (asg n t (s.wrap i v) h ρ μ) fun ρ μ => W3 (exs n b h ρ μ) fun fl ρ μ => (fl = .next ∧ I (i + 1) ρ μ) ∨ ∃ v, fl = .ret v ∧ R (.ret v) ρ μ)
  (fin : ∀ ρ μ, I xs.length ρ μ → R .next ρ μ) {ρ : Loc} {μ : Mem} (h0 : I 0 ρ μ) : W3 (fr n t b s 0 h ρ μ) R := w_fr xs hk I hat step fin h0
theorem w_cmpF {n : Nat} {elt : Expr} {g : Comprehension} {s : Src} {h : Here} {S : List V → Loc → Mem → Prop} (xs : List V) (I : Nat → List V → Loc → Mem → Prop) (hk : okT s g.target = true) (hat : ∀ i acc ρ μ, i ≤ xs.length → I i acc ρ μ → s.at i μ = some (xs[i]?.map fun v => s.wrap i v))
  (step : ∀ i v acc ρ μ, xs[i]? = some v → I i acc ρ μ → W2 (asg n g.target (s.wrap i v) h ρ μ) fun ρ μ => W2 (ifs n g.ifs h ρ μ) fun c μ => if c = true then W2 (ev n elt h ρ μ) fun w μ => acc.length < limit ∧ I (i + 1) (acc ++ [w]) ρ μ else I (i + 1) acc ρ μ)
  (fin : ∀ acc ρ μ, I xs.length acc ρ μ → S acc ρ μ) {ρ : Loc} {μ : Mem} (h0 : I 0 [] ρ μ) : W3 (cmpL n elt g [] s 0 h ρ [] μ) S := w_cmp xs hk I hat step fin h0
theorem rng_nat (w : Nat) : rngItems 0 (w : Int) = (List.range w).map nv := by unfold rngItems; simp
theorem okRng_nat {w : Nat} (h : w ≤ 1000) : okRng 0 (w : Int) = true := okRng_small (by decide) (by decide) (Int.natCast_nonneg _) (Int.ofNat_le.mpr (Nat.le_trans h (by decide)))
noncomputable def pairT (p : Pr) : V × V := (prV p, .bool true)
theorem dput_pair (acc : List Pr) (p : Pr) : dput (acc.map pairT) (prV p) (.bool true) = (if p ∈ acc then acc else acc ++ [p]).map pairT := by
 induction acc with
 | nil => rfl
 | cons a r ih =>
  simp only [List.map_cons, pairT, dput, prV_beq]
  by_cases h : a = p
  ·subst h; simp [pairT]
  ·have h1 : (a == p) = false := by simpa using h
   have h2 : ¬ p = a := fun e => h e.symm
   have ih' : dput (r.map pairT) (prV p) (.bool true) = (if p ∈ r then r else r ++ [p]).map pairT := ih
   simp only [h1, Bool.false_eq_true, if_false, List.mem_cons, h2, false_or]
   show pairT a :: dput (r.map pairT) (prV p) (.bool true) = _
   rw [ih']
   split <;> rfl
theorem okKey_pairs (acc : List Pr) (p : Pr) : okKey (acc.map pairT) (prV p) = true := List.all_eq_true.mpr fun _ h => (List.mem_map.mp h).elim fun _ h => h.2 ▸ rfl
theorem pairsD_uniq (l : List Pr) : ∀ acc : List Pr, acc.length + l.length ≤ 1000 → PairsD (l.map fun p => .tup [prV p, .bool true]) (acc.map pairT) ((l.foldl (fun acc p => if p ∈ acc then acc else acc ++ [p]) acc).map pairT) := by
 induction l with
 | nil => exact fun acc _ => .nil _
 | cons p r ih =>
  intro acc h
  have h : acc.length + (r.length + 1) ≤ 1000 := h
  refine .cons (okKey_pairs acc p) (by rw [List.length_map]; unfold limit; exact Nat.lt_of_le_of_lt (Nat.le_trans (Nat.le_add_right _ _) h) (by decide)) (dput_pair acc p ▸ ih _ ?_)
  split
  ·solve_by_elim (maxDepth := 4) only [*, Nat.le_of_lt, Nat.lt_of_lt_of_le, Nat.lt_of_le_of_lt, Nat.lt_trans, Nat.le_trans, Nat.ne_of_lt, Nat.ne_of_gt]
  ·rw [List.length_append]; exact Nat.le_trans (Nat.le_of_eq (Nat.add_right_comm _ _ _)) h
theorem bits (num k : Nat) : (((num : Int).fdiv ((2 : Int) ^ k)).fmod 2) = ((num / 2 ^ k % 2 : Nat) : Int) := by
 have h0 : (0 : Int) ≤ (2 : Int) ^ k := Int.le_of_lt (Int.pow_pos (by decide))
 rw [Int.fdiv_eq_ediv_of_nonneg _ h0, Int.fmod_eq_emod_of_nonneg _ (by decide)]
 push_cast
 rfl
theorem lot_turn (l : List Pr) (num i : Nat) (hi : i < l.length) : ∃ x, l.reverse[i]? = some x ∧ (lotR (l.drop (l.length - (i + 1))) num).reverse = (lotR (l.drop (l.length - i)) num).reverse ++ (if num / 2 ^ i % 2 = 1 then [x] else []) := by
 have h1 : l.length - (i + 1) < l.length := Nat.sub_lt (Nat.lt_of_le_of_lt (Nat.zero_le _) hi) (Nat.succ_pos _)
 refine ⟨l[l.length - (i + 1)], ?_, ?_⟩
 ·rw [List.getElem?_reverse hi, show l.length - 1 - i = l.length - (i + 1) by rw [Nat.sub_sub, Nat.add_comm], List.getElem?_eq_getElem h1]
 ·rw [List.drop_eq_getElem_cons h1]
  have e : l.length - (i + 1) + 1 = l.length - i := Nat.sub_add_cancel (Nat.sub_pos_of_lt hi)
  rw [e, lotR, List.reverse_append]
  have hl : (l.drop (l.length - i)).length = i := by rw [List.length_drop]; exact Nat.sub_sub_self (Nat.le_of_lt hi)
  rw [hl]
  congr 1
  split <;> rfl
theorem lotR_len (l : List Pr) (j : Nat) : (lotR l j).length ≤ l.length := by
 induction l with
 | nil => exact Nat.le_refl _
 | cons a r ih =>
  rw [lotR, List.length_append, List.length_cons]
  split
  ·rw [Nat.add_comm]; exact Nat.succ_le_succ ih
  ·exact Nat.le_trans (Nat.le_of_eq (Nat.zero_add _)) (Nat.le_succ_of_le ih)
theorem likeB_mono {N : List Nd} {P P' : List Pr} {x y : Nat} (h : ∀ p ∈ P, p ∈ P') (e : likeB N P x y = true) : likeB N P' x y = true := likeB_iff.mpr ((likeB_iff.mp e).mono h)
theorem likeB_same {N : List Nd} {P P' : List Pr} {x y : Nat} (h : ∀ p, p ∈ P ↔ p ∈ P') : likeB N P x y = likeB N P' x y := by
 rw [Bool.eq_iff_iff]
 exact ⟨likeB_mono fun p hp => (h p).mp hp, likeB_mono fun p hp => (h p).mpr hp⟩
theorem hdue {N : List Nd} {T ps : List Pr} (hN5 : N.length ≤ 5) (hnd : N.Nodup) (hk : ∀ d ∈ N, d.2.length ≤ 2 ∧ ∀ k ∈ d.2, k < N.length) (hT : ∀ p ∈ T, p.1 < N.length ∧ p.2 < N.length) (hps : ∀ p ∈ ps, p.1 < N.length ∧ p.2 < N.length) (hTl : T.length ≤ 5) (hpl : ps.length ≤ 5) {x y : Nat} (hx : x < N.length) (hy : y < N.length) (n : Nat)
  {μ : Mem} {told : V} (htold : ∀ μ', Grow μ μ' → listOf told μ' = some (T.map prV)) {Q : V → Mem → Prop}
  (q : ∀ μ', Grow μ μ' → Q (if likeB N (T ++ uniq ps) x y = true then .lst ((greedy (fun l => likeB N (T ++ l) x y) (uniq ps) (uniq ps)).map prV) else .none) μ') : W2 (callD (n + 350) Str.empty (nthM 17 0) [.lst (N.map ndV), told, .lst (ps.map prV), nv x, nv y] μ) Q := by
 have mono : ∀ l l', (∀ p ∈ l, p ∈ l') → likeB N (T ++ l) x y = true → likeB N (T ++ l') x y = true := fun l l' h => likeB_mono fun p hp => by
  rcases List.mem_append.mp hp with h1 | h1
  ·exact List.mem_append_left _ h1
  ·exact List.mem_append_right _ (h p h1)
 have hul : (uniq ps).length ≤ 5 := Nat.le_trans (uniq_len ps) hpl
 conv => arg 1; arg 3; whnf
 walk_at "w"
 refine w_comp rfl (w_src ?_)
 walk_at "w"
 refine w_sofL ?_
 refine w_map (ps.map prV) (fun v => .tup [v, .bool true]) rfl (by rw [List.length_map]; exact Nat.le_trans (by assumption) (Nat.le_add_left _ _)) ?_ (fun ρ => ?_)
 ·intro v hv
  walk_at "w"
  exact ⟨rfl, rfl⟩
 have e1 : (ps.map prV).map (fun v => V.tup [v, .bool true]) = ps.map fun p => .tup [prV p, .bool true] := by rw [List.map_map]; rfl
 rw [e1]
 walk_at "w"
 refine w_bltn rfl (w_dictL (pairsD_uniq ps [] (by simp; exact Nat.le_trans (by assumption) (Nat.le_add_left _ _))) ?_)
 walk_at "w"
 have e2 : (ps.foldl (fun acc p => if p ∈ acc then acc else acc ++ [p]) []) = uniq ps := rfl
 rw [e2]
 refine w_bltn rfl (w_listD (es := (uniq ps).map pairT) (get_new _ _) (by rw [List.length_map]; unfold limit; exact Nat.lt_of_le_of_lt (by assumption) (by decide)) ?_)
 have e3 : ((uniq ps).map pairT).map (·.1) = (uniq ps).map prV := by rw [List.map_map]; rfl
 rw [e3]
 have G1 : Grow μ (μ ++ [.dict ((uniq ps).map pairT)] ++ [.lst ((uniq ps).map prV)]) := (Grow.push _ _).trans (Grow.push _ _)
 have g1 : (μ ++ [O.dict ((uniq ps).map pairT)] ++ [O.lst ((uniq ps).map prV)])[(μ ++ [O.dict ((uniq ps).map pairT)]).length]? = some (.lst ((uniq ps).map prV)) := get_new _ _
 generalize μ ++ [O.dict ((uniq ps).map pairT)] ++ [O.lst ((uniq ps).map prV)] = μ1 at *
 generalize (μ ++ [O.dict ((uniq ps).map pairT)]).length = oi at *
 walk_at "e"
 walk_at "e"
 walk_at "e"
 walk_at "e"
 refine w_src ?_
 walk_at "w"
 refine w_bltn rfl (w_len (xs := (uniq ps).map prV) (lstAt_of g1) (by rw [List.length_map]; unfold limit; exact Nat.lt_of_le_of_lt (by assumption) (by decide)) ?_)
 rw [List.length_map]
 refine w_powI ⟨Int.natCast_nonneg _, Int.ofNat_lt.mpr (Nat.lt_of_le_of_lt hul (by decide))⟩ ?_
 have e4 : (2 : Int) ^ (((uniq ps).length : Nat) : Int).toNat = ((2 ^ (uniq ps).length : Nat) : Int) := by
  rw [Int.toNat_natCast]; push_cast; rfl
 rw [e4]
 have p32 : 2 ^ (uniq ps).length ≤ 32 := Nat.pow_le_pow_right (by decide) hul
 walk_at "w"
 refine w_bltn rfl (w_rng1 (w_sofG (okRng_nat (Nat.le_trans p32 (by decide))) ?_))
 rw [rng_nat]
 refine w_frF ((List.range (2 ^ (uniq ps).length)).map nv) (fun i ρ μ2 => Grow μ μ2 ∧ μ2[oi]? = some (.lst ((uniq ps).map prV)) ∧ Lk ρ [("nodes", .lst (N.map ndV)), ("told", told), ("a", nv x), ("b", nv y), ("once", .ref oi)] ∧ ∀ j < i, likeB N (T ++ lotR (uniq ps) j) x y = false) ?hk
  (fun i ρ μ2 _ _ => at_vals) ?st ?fin ⟨G1, g1, .cons rfl (.cons rfl (.cons rfl (.cons rfl (.cons rfl (.nil _))))), fun j h => by exact absurd (by assumption) (Nat.not_lt_zero _)⟩
 case hk => rfl
 case fin =>
  rintro ρ μ2 ⟨G2, _, _, hall⟩
  rw [List.length_map, List.length_range] at hall
  walk_at "w"
  have := q μ2 G2
  rw [← due_eq (fun l => likeB N (T ++ l) x y) mono (uniq ps) (uniq_nodup ps) (v := .none) (.inr ⟨hall, rfl⟩)] at this
  exact this
 case st =>
  rintro i v ρ μ2 hv ⟨G2, g2, L2, hall⟩
  have hi : i < 2 ^ (uniq ps).length := by have := (List.getElem?_eq_some_iff.mp hv).1; rw [List.length_map, List.length_range] at this; exact this
  have hvi : v = nv i := by
   rw [List.getElem?_map, List.getElem?_eq_getElem (by rw [List.length_range]; exact hi), List.getElem_range] at hv
   cases hv; rfl
  subst hvi
  rw [show (Src.vals ((List.range (2 ^ (uniq ps).length)).map nv)).wrap i (nv i) = nv i from rfl]
  walk_at "e"
  rename_i L3
  walk_at "e"
  walk_at "e"
  walk_at "e"
  refine w_comp rfl (w_srcEnum rfl ?_)
  walk_at "w"
  refine w_slLR (listOf_ref g2) (by rw [List.length_map]; unfold limit; exact Nat.lt_of_le_of_lt (by assumption) (by decide)) ?_
  refine ⟨_, rfl, ?_⟩
  show W3 _ _
  rw [← List.map_reverse]
  have L4 := L3.capt (sc := ⟨.function, [(".0", .local), ("k", .local), ("pair", .local), ("number", .free)], false, false, []⟩) rfl [("number", nv i)] rfl (Lk.cons rfl (Lk.nil _))
  refine w_cmpF ((uniq ps).reverse.map prV) (fun k acc ρ μ3 => μ3 = μ2 ∧ acc = (lotR ((uniq ps).drop ((uniq ps).length - k)) i).reverse.map prV ∧ Lk ρ [("number", nv i)]) ?hk2 (fun k acc ρ μ3 _ _ => at_enumv) ?st2 ?fin2 ⟨rfl, by simp [lotR], L4⟩
  case hk2 => rfl
  case st2 =>
   rintro k v acc ρ μ3 hv3 ⟨rfl, rfl, L5⟩
   rw [List.getElem?_map] at hv3
   obtain ⟨p, hp, rfl⟩ := Option.map_eq_some_iff.mp hv3
   have hkl : k < (uniq ps).length := by have := (List.getElem?_eq_some_iff.mp hp).1; rw [List.length_reverse] at this; exact this
   obtain ⟨z, hz, hturn⟩ := lot_turn (uniq ps) i k hkl
   rw [hp] at hz
   cases hz
   refine w_stuple rfl ?_
   show W1 (itemsOf (.tup [nv k, prV p]) _) _
   walk_at "w"
   rename_i L6
   have hk5 := Nat.le_of_lt (Nat.lt_of_lt_of_le hkl hul)
   refine w_powI ⟨Int.natCast_nonneg _, Int.ofNat_lt.mpr (Nat.lt_of_le_of_lt hk5 (by decide))⟩ ?_
   rw [Int.toNat_natCast]
   refine w_fdivI ?_ ?_
   ·have h1 : (0 : Int) < 2 ^ k := Int.pow_pos (by decide)
    have h2 : (2 : Nat) ^ k ≤ 32 := Nat.le_trans (Nat.pow_le_pow_right (by decide) hk5) (by decide)
    have h3 : ((2 : Int) ^ k) < 1000000000 := by
     have : ((2 ^ k : Nat) : Int) = (2 : Int) ^ k := by push_cast; rfl
     rw [← this]; exact Int.ofNat_lt.mpr (Nat.lt_of_le_of_lt h2 (by decide))
    simp [h1, h3]
   walk_at "w"
   refine w_modI (by decide) ?_
   rw [bits]
   walk_at "w"
   have hlen : ((lotR ((uniq ps).drop ((uniq ps).length - k)) i).reverse.map prV).length < limit := by
    rw [List.length_map, List.length_reverse]
    have h1 := lotR_len ((uniq ps).drop ((uniq ps).length - k)) i
    rw [List.length_drop] at h1
    unfold limit; exact Nat.lt_of_le_of_lt (Nat.le_trans h1 (Nat.le_trans (Nat.sub_le _ _) hul)) (by decide)
   by_cases hb : i / 2 ^ k % 2 = 1
   ·have : ((i / 2 ^ k % 2 : Nat) : Int) = 1 := by exact_mod_cast hb
    refine iD this ?_
    walk_at "w"
    refine iP rfl ?_
    walk_at "w"
    refine ⟨hlen, rfl, ?_, L6.sub (Lk.cons rfl (Lk.nil _))⟩
    rw [hturn, if_pos hb, List.map_append]; rfl
   ·have : ¬ ((i / 2 ^ k % 2 : Nat) : Int) = 1 := by exact_mod_cast hb
    simp only [this, decide_false, Bool.false_eq_true, if_false]
    refine ⟨trivial, ?_, L6.sub (Lk.cons rfl (Lk.nil _))⟩
    rw [hturn, if_neg hb, List.append_nil]
  case fin2 =>
   rintro acc ρ3 μ3 ⟨rfl, rfl, _⟩
   rw [List.length_map, List.length_reverse, Nat.sub_self, List.drop_zero]
   clear L4
   walk_at "w"
   have hll := Nat.le_trans (lotR_len (uniq ps) i) hul
   refine w_slLR rfl (by rw [List.length_map, List.length_reverse]; unfold limit; exact Nat.lt_of_le_of_lt hll (by decide)) ?_
   rw [← List.map_reverse, List.reverse_reverse]
   walk_at "w"
   refine w_addL (x := T.map prV) (y := (lotR (uniq ps) i).map prV) (htold _ G2) rfl (by rw [List.length_map, List.length_map]; unfold limit; exact Nat.lt_of_le_of_lt (Nat.add_le_add hTl hll) (by decide)) ?_
   rw [← List.map_append]
   walk_at "w"
   refine w_fn rfl fn_like ?_
   refine hare hN5 hnd hk ?_ (by rw [List.length_append]; exact Nat.le_trans (Nat.add_le_add hTl hll) (by decide)) hx hy _ ?_
   ·intro p hp
    rcases List.mem_append.mp hp with h | h
    ·exact hT p h
    ·exact hps p ((mem_uniq _ _).mp (lotR_sub _ _ p h))
   intro μ4 G4
   refine ⟨_, rfl, ?_⟩
   have g4 := G4.get g2
   cases hlk : likeB N (T ++ lotR (uniq ps) i) x y with
   | true =>
    refine iP rfl ?_
    walk_at "w"
    have := q μ4 (G2.trans G4)
    rw [← due_eq (fun l => likeB N (T ++ l) x y) mono (uniq ps) (uniq_nodup ps) (.inl ⟨i, hi, hall, hlk, rfl⟩)] at this
    exact .inr ⟨_, rfl, this⟩
   | false =>
    refine iM nofun ?_
    walk_at "w"
    rename_i L7
    refine .inl ⟨rfl, G2.trans G4, g4, L7.sub (Lk.cons rfl (Lk.cons rfl (Lk.cons rfl (Lk.cons rfl (Lk.cons rfl (Lk.nil _)))))), fun j hj => ?_⟩
    by_cases h : j = i
    ·rw [h]; exact hlk
    ·exact hall j (Nat.lt_of_le_of_ne (Nat.le_of_lt_succ hj) h)
/-- a memory whose clock went on and that grew -/
noncomputable def GC (row : List Int) (μ : Mem) (t : Nat) (μ' : Mem) : Prop := ∃ e, μ' = μ.set 0 (clkO row t) ++ e
section
variable {row : List Int} {μ μ' : Mem} {t t2 : Nat}
theorem GC.start (h : μ[0]? = some (clkO row t)) : GC row μ t μ := ⟨[], by
 rw [List.append_nil]
 apply List.ext_getElem?
 intro i
 by_cases hi : 0 = i
 ·subst hi; rw [set_get h]; exact h
 ·rw [List.getElem?_set_ne hi]⟩
theorem GC.tick (hμ : 0 < μ.length) (g : GC row μ t μ') (t2 : Nat) : GC row μ t2 (μ'.set 0 (clkO row t2)) := by
 obtain ⟨e, rfl⟩ := g
 exact ⟨e, by rw [List.set_append_left _ _ (by rw [List.length_set]; exact hμ), List.set_set]⟩
theorem GC.push (g : GC row μ t μ') (o : O) : GC row μ t (μ' ++ [o]) := by
 obtain ⟨e, rfl⟩ := g
 exact ⟨e ++ [o], by rw [List.append_assoc]⟩
theorem GC.set (g : GC row μ t μ') {k : Nat} (h : μ.length ≤ k) (o : O) : GC row μ t (μ'.set k o) := by
 obtain ⟨e, rfl⟩ := g
 exact ⟨e.set (k - μ.length) o, by rw [List.set_append_right _ _ (by rw [List.length_set]; exact h), List.length_set]⟩
theorem GC.clk (hμ : 0 < μ.length) (g : GC row μ t μ') : μ'[0]? = some (clkO row t) := by
 obtain ⟨e, rfl⟩ := g
 rw [List.getElem?_append_left (by rw [List.length_set]; exact hμ), List.getElem?_set_self hμ]
theorem GC.len (g : GC row μ t μ') : μ.length ≤ μ'.length := by
 obtain ⟨e, rfl⟩ := g
 simp
end
theorem listOf_tick {v : V} {μ : Mem} {xs : List V} {row : List Int} {t : Nat} (h0 : μ[0]? = some (clkO row t)) (h : listOf v μ = some xs) (t2 : Nat) : listOf v (μ.set 0 (clkO row t2)) = some xs := by
 cases v with
 | ref k =>
  have h := of_lstAt h
  refine lstAt_of ((List.getElem?_set_ne fun hk => ?_).trans h)
  subst hk
  exact nomatch (Option.some.inj (h0.symm.trans h))
 | _ => exact h
inductive Iv21 (row : List Int) (μ : Mem) (many si t : Nat) (ρ : Loc) (μ2 : Mem) : Prop
 | mk (ps : List Pr) (t2 : Nat) (_ : Lk ρ [("clock", .ref 0), ("many", nv many), ("some", .ref si)]) (_ : GC row μ t2 μ2) (_ : t2 ≤ t + 8) (_ : μ2[si]? = some (.lst (ps.map prV))) (_ : ps.length ≤ 3) (_ : 0 < ps.length) (_ : ∀ p ∈ ps, p.1 < many ∧ p.2 < many) : Iv21 row μ many si t ρ μ2
inductive Iv22 (row : List Int) (μ : Mem) (many si t : Nat) (i : Nat) (ρ : Loc) (μ3 : Mem) : Prop
 | mk (ps : List Pr) (t2 : Nat) (_ : Lk ρ [("clock", .ref 0), ("many", nv many), ("some", .ref si)]) (_ : GC row μ t2 μ3) (_ : t2 ≤ t + 1 + 2 * i) (_ : μ3[si]? = some (.lst (ps.map prV))) (_ : ps.length = i) (_ : ∀ p ∈ ps, p.1 < many ∧ p.2 < many) : Iv22 row μ many si t i ρ μ3
inductive Iv23 (row : List Int) (μ : Mem) (many t : Nat) (ρ : Loc) (μ3 : Mem) : Prop
 | mk (ps : List Pr) (t3 : Nat) (_ : Lk ρ [("some", .lst (ps.map prV))]) (_ : GC row μ t3 μ3) (_ : t3 ≤ t + 20) (_ : ps.length ≤ 5) (_ : 0 < ps.length) (_ : ∀ p ∈ ps, p.1 < many ∧ p.2 < many) : Iv23 row μ many t ρ μ3
inductive Iv24 (row : List Int) (μ : Mem) (many t : Nat) (i : Nat) (ρ : Loc) (μ4 : Mem) : Prop
 | mk (ps : List Pr) (t4 : Nat) (sv : V) (_ : Lk ρ [("clock", .ref 0), ("many", nv many), ("some", sv)]) (_ : GC row μ t4 μ4) (_ : t4 ≤ t + 9 + 3 * i) (_ : listOf sv μ4 = some (ps.map prV)) (_ : (0 < i → sv = .lst (ps.map prV))) (_ : ps.length ≤ 3 + i) (_ : 0 < ps.length) (_ : ∀ p ∈ ps, p.1 < many ∧ p.2 < many) : Iv24 row μ many t i ρ μ4
theorem ins_len (z n : Nat) : min z n + 1 + (n - z) = n + 1 := by lia
theorem hpairs (n : Nat) {row : List Int} {t : Nat} {μ : Mem} {many : Nat} (hm : 0 < many) (hμ : μ[0]? = some (clkO row t)) (ht : t ≤ 900) (hr : row.length ≤ 100) {Q : V → Mem → Prop}
  (q : ∀ (ps : List Pr) μ' t', (∀ p ∈ ps, p.1 < many ∧ p.2 < many) → ps.length ≤ 5 → 0 < ps.length → t' ≤ t + 20 → GC row μ t' μ' → Q (.lst (ps.map prV)) μ') : W2 (callD (n + 150) Str.empty (nthM 18 0) [.ref 0, nv many] μ) Q := by
 have hμl : 0 < μ.length := (List.getElem?_eq_some_iff.mp hμ).1
 conv => arg 1; arg 3; whnf
 walk_at "e"
 walk_at "e"
 walk_at "e"
 walk_at "e"
 walk_at "e"
 walk_at "e"
 walk_at "e"
 walk_at "e"
 have g0 : GC row μ t (μ ++ [.lst []]) := (GC.start hμ).push _
 have gs : (μ ++ [O.lst []])[μ.length]? = some (.lst []) := get_new _ _
 generalize hsi : μ.length = si at *
 have hm0 : 0 < μ.length := by rw [hsi]; exact hμl
 generalize μ ++ [O.lst []] = μ1 at *
 refine ex_mono (Q := fun fl ρ μ2 => fl = Fl.next ∧ Iv21 row μ many si t ρ μ2) ?_ ?_
 ·walk_at "e"
  refine w_src ?_
  walk_at "w"
  refine w_fn rfl fn_tick ?_
  refine htick _ (many := 3) (by decide) (g0.clk hm0) (by exact Nat.le_trans (by assumption) (Nat.le_add_left _ _)) hr ?_
  intro r hr3
  have g1 := g0.tick hm0 (t + 1)
  have gs1 : (μ1.set 0 (clkO row (t + 1)))[si]? = some (.lst []) := by rw [set_get_ne (by exact Nat.ne_of_lt (by assumption))]; exact gs
  generalize μ1.set 0 (clkO row (t + 1)) = μ2 at *
  walk_at "w"
  refine w_bltn rfl (w_rng1 ?_)
  have e1 : (1 : Int) + (r : Int) = ((1 + r : Nat) : Int) := by lia
  rw [e1]
  refine w_sofG (okRng_nat (by lia)) ?_
  rw [rng_nat]
  refine w_frF ((List.range (1 + r)).map nv) (Iv22 row μ many si t) ?hk
   (fun i ρ μ3 _ _ => at_vals) ?st ?fin ⟨[], t + 1, .cons rfl (.cons rfl (.cons rfl (.nil _))), g1, by exact Nat.le_refl _, gs1, rfl, fun p h => nomatch h⟩
  case hk => rfl
  case fin =>
   rintro ρ μ3 ⟨ps, t2, L, g, ht2, gs3, hl, hp⟩
   rw [List.length_map, List.length_range] at ht2 hl
   exact ⟨rfl, ps, t2, L, g, by lia, gs3, by lia, by lia, hp⟩
  case st =>
   rintro i v ρ μ3 hv ⟨ps, t2, L, g, ht2, gs3, hl, hp⟩
   have hi : i < 1 + r := by have := (List.getElem?_eq_some_iff.mp hv).1; rw [List.length_map, List.length_range] at this; exact this
   have ht5 : t2 + 3 ≤ 1000 := by lia
   walk_at "w"
   refine w_fn rfl fn_tick ?_
   refine htick _ hm (g.clk hm0) (Nat.le_trans (Nat.le_add_right _ 3) ht5) hr ?_
   intro x hx
   have g4 := g.tick hm0 (t2 + 1)
   have gs4 : (μ3.set 0 (clkO row (t2 + 1)))[si]? = some (.lst (ps.map prV)) := by rw [set_get_ne (by exact Nat.ne_of_lt (by assumption))]; exact gs3
   generalize μ3.set 0 (clkO row (t2 + 1)) = μ4 at *
   walk_at "w"
   refine w_methL gs4 ?_
   walk_at "w"
   refine w_fn rfl fn_tick ?_
   refine htick _ hm (g4.clk hm0) (Nat.le_trans (Nat.le_add_right _ 2) ht5) hr ?_
   intro y hy
   have g5 := g4.tick hm0 (t2 + 1 + 1)
   have gs5 : (μ4.set 0 (clkO row (t2 + 1 + 1)))[si]? = some (.lst (ps.map prV)) := by rw [set_get_ne (by exact Nat.ne_of_lt (by assumption))]; exact gs4
   generalize μ4.set 0 (clkO row (t2 + 1 + 1)) = μ5 at *
   walk_at "w"
   refine w_append gs5 (by rw [List.length_map, hl]; unfold limit; exact Nat.lt_of_lt_of_le hi (Nat.le_trans (Nat.add_le_add_left (Nat.le_of_lt hr3) 1) (by decide))) ?_
   walk_at "w"
   rename_i L7
   refine .inl ⟨rfl, ps ++ [(x, y)], t2 + 2, L7.sub (Lk.cons rfl (Lk.cons rfl (Lk.cons rfl (Lk.nil _)))), g5.set (by exact Nat.le_of_eq (by assumption)) _, by exact Nat.add_le_add_right (by assumption) _, ?_, by rw [List.length_append, hl]; rfl, ?_⟩
   ·rw [set_get gs5]; simp [prV]
   ·intro p hp'
    rcases List.mem_append.mp hp' with h | h
    ·exact hp p h
    ·rw [List.mem_singleton] at h; rw [h]; exact ⟨hx, hy⟩
 ·rintro _ ρ μ2 ⟨rfl, ps, t2, L, g, ht2, gs2, hl3, hpos, hp⟩
  walk_at "e"
  walk_at "e"
  refine ex_mono (Q := fun fl ρ μ3 => fl = Fl.next ∧ Iv23 row μ many t ρ μ3) ?_ ?_
  ·walk_at "e"
   refine w_src ?_
   walk_at "w"
   refine w_fn rfl fn_tick ?_
   refine htick _ (many := 2) (by decide) (g.clk hm0) (by lia) hr ?_
   intro r hr2
   have g1 := g.tick hm0 (t2 + 1)
   have gs1 : (μ2.set 0 (clkO row (t2 + 1)))[si]? = some (.lst (ps.map prV)) := by rw [set_get_ne (by exact Nat.ne_of_lt (by assumption))]; exact gs2
   generalize μ2.set 0 (clkO row (t2 + 1)) = μ3 at *
   walk_at "w"
   refine w_bltn rfl (w_rng1 ?_)
   have e1 : (1 : Int) + (r : Int) = ((1 + r : Nat) : Int) := by lia
   rw [e1]
   refine w_sofG (okRng_nat (by lia)) ?_
   rw [rng_nat]
   refine w_frF ((List.range (1 + r)).map nv) (Iv24 row μ many t) ?hk
    (fun i ρ μ4 _ _ => at_vals) ?st ?fin ⟨ps, t2 + 1, .ref si, L, g1, by exact Nat.succ_le_succ (by assumption), listOf_ref gs1, fun h => by exact absurd (by assumption) (Nat.not_lt_zero _), by assumption, hpos, hp⟩
   case hk => rfl
   case fin =>
    rintro ρ μ4 ⟨ps, t4, sv, L, g, ht4, _, hsv, hl, hpos, hp⟩
    rw [List.length_map, List.length_range] at ht4 hl hsv
    have := hsv (by lia)
    subst this
    exact ⟨rfl, ps, t4, L.sub (Lk.cons rfl (Lk.nil _)), g, by lia, by lia, hpos, hp⟩
   case st =>
    rintro i v ρ μ4 hv ⟨ps, t4, sv, L, g, ht4, hls, _, hl, hpos, hp⟩
    have hi : i < 1 + r := by have := (List.getElem?_eq_some_iff.mp hv).1; rw [List.length_map, List.length_range] at this; exact this
    have ht5 : t4 + 3 ≤ 1000 := by lia
    have hps : ps.length ≤ 8 := by lia
    walk_at "w"
    refine w_bltn rfl (w_len (xs := ps.map prV) ?_ (by rw [List.length_map]; unfold limit; exact Nat.lt_of_le_of_lt hps (by decide)) ?_)
    ·cases sv <;> first | exact nn hls | exact hls
    rw [List.length_map]
    walk_at "w"
    refine w_fn rfl fn_tick ?_
    refine htick _ hpos (g.clk hm0) (Nat.le_trans (Nat.le_add_right _ 3) ht5) hr ?_
    intro x hx
    have g5 := g.tick hm0 (t4 + 1)
    have hls5 := listOf_tick (g.clk hm0) hls (t4 + 1)
    generalize μ4.set 0 (clkO row (t4 + 1)) = μ5 at *
    walk_at "w"
    refine w_idxL hls5 (getI_map (List.getElem?_eq_getElem hx) hps) ?_
    have hpx := hp _ (List.getElem_mem hx)
    generalize ps[x] = p0 at *
    walk_at "w"
    refine w_fn rfl fn_tick ?_
    refine htick _ (many := 3) (by decide) (g5.clk hm0) (Nat.le_trans (Nat.le_add_right _ 2) ht5) hr ?_
    intro y hy
    have g6 := g5.tick hm0 (t4 + 1 + 1)
    have hls6 := listOf_tick (g5.clk hm0) hls5 (t4 + 1 + 1)
    generalize μ5.set 0 (clkO row (t4 + 1 + 1)) = μ6 at *
    walk_at "w"
    by_cases hy2 : ((y : Nat) : Int) = 2
    ·refine iD hy2 ?_
     walk_at "w"
     refine w_slTR (by show 2 < limit; decide) ?_
     have e2 : V.tup [nv p0.1, nv p0.2].reverse = prV (p0.2, p0.1) := rfl
     rw [e2]
     have hp1 : (p0.2, p0.1).1 < many ∧ (p0.2, p0.1).2 < many := ⟨hpx.2, hpx.1⟩
     generalize (p0.2, p0.1) = p1 at *
     walk_at "w"
     refine w_bltn rfl (w_len (xs := ps.map prV) ?_ (by rw [List.length_map]; unfold limit; exact Nat.lt_of_le_of_lt hps (by decide)) ?_)
     ·cases sv <;> first | exact nn hls6 | exact hls6
     rw [List.length_map]
     walk_at "w"
     refine w_fn rfl fn_tick ?_
     refine htick _ (many := ps.length + 1) (by exact Nat.succ_pos _) (g6.clk hm0) (Nat.le_of_succ_le ht5) hr ?_
     intro z hz
     have g7 := g6.tick hm0 (t4 + 1 + 1 + 1)
     have hls7 := listOf_tick (g6.clk hm0) hls6 (t4 + 1 + 1 + 1)
     generalize μ6.set 0 (clkO row (t4 + 1 + 1 + 1)) = μ7 at *
     have hlim : (ps.map prV).length < limit := by rw [List.length_map]; unfold limit; exact Nat.lt_of_le_of_lt hps (by decide)
     walk_at "w"
     refine w_evo1 ?_
     walk_at "w"
     refine ⟨_, rfl, ?_⟩
     refine w_slL hls7 hlim (cutL_to (by exact Int.natCast_nonneg _)) ?_
     walk_at "w"
     refine w_addL (x := (ps.map prV).take (z : Int).toNat) (y := [prV p1]) rfl (listOf_ref (get_new _ _)) (by rw [List.length_take, List.length_map]; simp; unfold limit; exact Nat.lt_of_le_of_lt (Nat.succ_le_succ (Nat.le_trans (Nat.min_le_right _ _) hps)) (by decide)) ?_
     walk_at "w"
     refine w_evo1 ?_
     walk_at "w"
     refine ⟨_, rfl, ?_⟩
     walk_at "w"
     refine w_slL (listOf_push hls7 _) hlim (cutL_from (by exact Int.natCast_nonneg _)) ?_
     refine w_addL (x := (ps.map prV).take (z : Int).toNat ++ [prV p1]) (y := (ps.map prV).drop (z : Int).toNat) rfl rfl (by rw [List.length_append, List.length_take, List.length_drop, List.length_map]; simp; unfold limit; exact Nat.lt_of_le_of_lt (Nat.add_le_add (Nat.succ_le_succ (Nat.le_trans (Nat.min_le_right _ _) hps)) (Nat.le_trans (Nat.sub_le _ _) hps)) (by decide)) ?_
     walk_at "w"
     rename_i L9
     have e3 : (ps.map prV).take (z : Int).toNat ++ [prV p1] ++ (ps.map prV).drop (z : Int).toNat = (ps.take z ++ [p1] ++ ps.drop z).map prV := by simp
     refine .inl ⟨rfl, ps.take z ++ [p1] ++ ps.drop z, t4 + 3, _, L9.sub (Lk.cons rfl (Lk.cons rfl (Lk.cons rfl (Lk.nil _)))), g7.push _, by exact Nat.add_le_add_right (by assumption) _, by rw [e3]; rfl, fun _ => by rw [e3], by rw [List.length_append, List.length_append, List.length_take, List.length_drop]; simp; exact Nat.le_trans (Nat.le_of_eq (ins_len _ _)) (Nat.succ_le_succ hl), by simp; exact Nat.succ_pos _, ?_⟩
     intro p hp'
     simp only [List.mem_append, List.mem_singleton] at hp'
     rcases hp' with (h | h) | h
     ·exact hp p (List.mem_of_mem_take h)
     ·rw [h]; exact hp1
     ·exact hp p (List.mem_of_mem_drop h)
    ·refine iN hy2 ?_
     walk_at "w"
     have hp1 := hpx
     generalize p0 = p1 at *
     refine w_bltn rfl (w_len (xs := ps.map prV) ?_ (by rw [List.length_map]; unfold limit; exact Nat.lt_of_le_of_lt hps (by decide)) ?_)
     ·cases sv <;> first | exact nn hls6 | exact hls6
     rw [List.length_map]
     walk_at "w"
     refine w_fn rfl fn_tick ?_
     refine htick _ (many := ps.length + 1) (by exact Nat.succ_pos _) (g6.clk hm0) (Nat.le_of_succ_le ht5) hr ?_
     intro z hz
     have g7 := g6.tick hm0 (t4 + 1 + 1 + 1)
     have hls7 := listOf_tick (g6.clk hm0) hls6 (t4 + 1 + 1 + 1)
     generalize μ6.set 0 (clkO row (t4 + 1 + 1 + 1)) = μ7 at *
     have hlim : (ps.map prV).length < limit := by rw [List.length_map]; unfold limit; exact Nat.lt_of_le_of_lt hps (by decide)
     walk_at "w"
     refine w_evo1 ?_
     walk_at "w"
     refine ⟨_, rfl, ?_⟩
     refine w_slL hls7 hlim (cutL_to (by exact Int.natCast_nonneg _)) ?_
     walk_at "w"
     refine w_addL (x := (ps.map prV).take (z : Int).toNat) (y := [prV p1]) rfl (listOf_ref (get_new _ _)) (by rw [List.length_take, List.length_map]; simp; unfold limit; exact Nat.lt_of_le_of_lt (Nat.succ_le_succ (Nat.le_trans (Nat.min_le_right _ _) hps)) (by decide)) ?_
     walk_at "w"
     refine w_evo1 ?_
     walk_at "w"
     refine ⟨_, rfl, ?_⟩
     walk_at "w"
     refine w_slL (listOf_push hls7 _) hlim (cutL_from (by exact Int.natCast_nonneg _)) ?_
     refine w_addL (x := (ps.map prV).take (z : Int).toNat ++ [prV p1]) (y := (ps.map prV).drop (z : Int).toNat) rfl rfl (by rw [List.length_append, List.length_take, List.length_drop, List.length_map]; simp; unfold limit; exact Nat.lt_of_le_of_lt (Nat.add_le_add (Nat.succ_le_succ (Nat.le_trans (Nat.min_le_right _ _) hps)) (Nat.le_trans (Nat.sub_le _ _) hps)) (by decide)) ?_
     walk_at "w"
     rename_i L9
     have e3 : (ps.map prV).take (z : Int).toNat ++ [prV p1] ++ (ps.map prV).drop (z : Int).toNat = (ps.take z ++ [p1] ++ ps.drop z).map prV := by simp
     refine .inl ⟨rfl, ps.take z ++ [p1] ++ ps.drop z, t4 + 3, _, L9.sub (Lk.cons rfl (Lk.cons rfl (Lk.cons rfl (Lk.nil _)))), g7.push _, by exact Nat.add_le_add_right (by assumption) _, by rw [e3]; rfl, fun _ => by rw [e3], by rw [List.length_append, List.length_append, List.length_take, List.length_drop]; simp; exact Nat.le_trans (Nat.le_of_eq (ins_len _ _)) (Nat.succ_le_succ hl), by simp; exact Nat.succ_pos _, ?_⟩
     intro p hp'
     simp only [List.mem_append, List.mem_singleton] at hp'
     rcases hp' with (h | h) | h
     ·exact hp p (List.mem_of_mem_take h)
     ·rw [h]; exact hp1
     ·exact hp p (List.mem_of_mem_drop h)
  ·rintro _ ρ μ3 ⟨rfl, ps, t3, L, g, ht3, hl, hpos, hp⟩
   walk_at "w"
   exact q ps μ3 t3 hp hl hpos ht3 g
set_option tactic.hygienic false
/-- a small letter -/
noncomputable def chr (c : Nat) : Str := ⟨#[c]⟩
theorem chr_low {c : Nat} (h1 : 97 ≤ c) (h2 : c ≤ 122) : oneLow (chr c) = true := by
 simp [oneLow, chr, h1, h2]
theorem signs_str : Str.ofString "()[]{},:" = ⟨#[40, 41, 91, 93, 123, 125, 44, 58]⟩ := by decide +kernel
theorem no_sign {c : Nat} (h1 : 97 ≤ c) (h2 : c ≤ 122) : (Str.ofString "()[]{},:").cps.contains ((chr c).cps.getD 0 0) = false := by
 rw [signs_str]
 have e : (chr c).cps.getD 0 0 = c := rfl
 rw [e]
 have : c ∉ [40, 41, 91, 93, 123, 125, 44, 58] := by simp; lia
 rw [← Bool.not_eq_true]
 intro h
 rw [Array.contains_iff_mem] at h
 exact this (by simpa using h)
theorem ofS_empty : Str.ofString "" = ⟨#[]⟩ := by decide +kernel
theorem ofS_q : Str.ofString "?" = ⟨#[63]⟩ := by decide +kernel
theorem veq_nils {μ : Mem} {k : Nat} (h : μ[k]? = some (.lst [])) : veq (.lst []) (.ref k) μ true := ⟨rfl, congrArg (V.pureN 5) (flat_ref h), congrArg (fun v => PyData.eqv (V.lst []).py (V.py v)) (flat_ref h).symm⟩
theorem chr_ok {c : Nat} (h : c ≤ 122) : PyData.strOk (chr c) = true := Array.all_eq_true.mpr fun i hi => match i, hi with | 0, _ => decide_eq_true (Nat.lt_of_le_of_lt (show c ≤ 122 from h) (by decide))
theorem his_op (n : Nat) {c : Nat} (h1 : 97 ≤ c) (h2 : c ≤ 122) {μ : Mem} {Q : V → Mem → Prop} (q : Q (.bool true) (μ ++ [.lst []])) : W2 (callD (n + 60) Str.empty (nthM 5 0) [.str (chr c)] μ) Q := by
 have hne : decide (chr c = Str.ofString "") = false := by rw [ofS_empty]; simp [chr]
 conv => arg 1; arg 3; whnf
 walk_at "w"
 refine w_and ?_
 walk_at "w"
 refine w_neS (Bool.and_eq_true_iff.mpr ⟨chr_ok h2, by decide +kernel⟩) ?_
 refine ⟨_, rfl, ?_⟩
 rw [hne]
 refine iP rfl ?_
 walk_at "w"
 refine w_comp rfl (w_src ?_)
 walk_at "w"
 refine w_sofS ?_
 have e1 : ((chr c).cps.toList.map fun c => V.str ⟨#[c]⟩) = [.str (chr c)] := rfl
 rw [e1]
 refine w_filt [.str (chr c)] (fun v => v) (fun _ => false) rfl (by simp) ?_ ?_ (fun ρ => ?_)
 ·intro v hv
  rw [List.mem_singleton] at hv
  subst hv
  walk_at "w"
  refine w_isspace (chr_low h1 h2) ?_
  refine ⟨_, rfl, ?_⟩
  refine iM nofun ?_
  walk_at "w"
  refine w_in (isIn_S (chr_low h1 h2) (no_sign h1 h2)) ?_
  simp only [Bool.false_eq_true, if_false]
  walk_at "w"
  exact ⟨trivial, rfl⟩
 ·intro v hv h; cases h
 ·have e2 : (([V.str (chr c)].filter fun _ => false).map fun v => v) = [] := rfl
  rw [e2]
  walk_at "w"
  refine w_eq (veq_nils (get_new _ _)) ?_
  walk_at "w"
  exact q
set_option tactic.hygienic true
noncomputable def St.setNum (s : St) (l : List (V × V)) : St := { s with numbers := l }
noncomputable def St.setWt (s : St) (l : List V) : St := { s with weights := l }
noncomputable def St.setDp (s : St) (l : List V) : St := { s with depths := l }
theorem or_and : (BoolOp.Or == BoolOp.And) = false := rfl
theorem ints_map : ∀ l : List Int, ints? (l.map .int) = some l
 | [] => rfl
 | i :: r => by simp [ints?, ints_map r]
section
variable {s : St} {a : A} {Q : V → Mem → Prop}
theorem hrequire (n : Nat) {c : Nat} (h1 : 97 ≤ c) (h2 : c ≤ 122) (q : Q .none (mem (s.push (.lst [])) a)) : W2 (callD (n + 90) "Bank" (nthM 6 3) [.ref 2, .str (chr c)] (mem s a)) Q := by
 conv => arg 1; arg 3; whnf
 walk_at "w"
 refine w_fn rfl fn_isop ?_
 refine his_op _ h1 h2 ?_
 rw [mem_push]
 refine ⟨_, rfl, ?_⟩
 refine iM nofun ?_
 walk_at "w"
 refine w_idxS ⟨by decide, by show ((0 : Int) < 1); decide, by show 1 < limit; decide⟩ ?_
 walk_at "w"
 refine w_eqS (Bool.and_eq_true_iff.mpr ⟨chr_ok h2, by decide +kernel⟩) ?_
 have hne : decide ((⟨#[(chr c).cps.getD (Int.toNat 0) 0]⟩ : Str) = Str.ofString "?") = false := by
  rw [ofS_q]
  have : (chr c).cps.getD (Int.toNat 0) 0 = c := rfl
  rw [this]
  simp; lia
 rw [hne]
 refine iM nofun ?_
 walk_at "w"
 simp only [or_and, Bool.false_eq_true, if_false]
 walk_at "w"
 exact q
theorem htake (n : Nat) {c : Nat} {ks : List Nat} (h1 : 97 ≤ c) (h2 : c ≤ 122) (hks : ∀ k ∈ ks, k < a.nodes.length) (hkl : ks.length ≤ 2) (hN : a.nodes.length ≤ 5) (hnew : (chr c, ks) ∉ a.nodes) (hnum : s.numbers = a.nodes.zipIdx.map knV) {W D : List Int} (hW : s.weights = W.map .int) (hD : s.depths = D.map .int) (hWl : W.length = a.nodes.length) (hDl : D.length = a.nodes.length)
  (q : ∀ (w d : Int) s', s' = ((((s.push (.lst [])).setNum ((a.nodes ++ [(chr c, ks)]).zipIdx.map knV)).setWt ((W ++ [w]).map .int)).push (.lst [.int 0])).setDp ((D ++ [d]).map .int) → Q (nv a.nodes.length) (mem s' (a.setN (a.nodes ++ [(chr c, ks)])))) :
  W2 (callD (n + 150) "Bank" (nthM 6 2) [.ref 2, .str (chr c), .tup (ks.map nv)] (mem s a)) Q := by
 have hkn : (a.nodes.zipIdx).lookup (chr c, ks) = none := by
  cases h : (a.nodes.zipIdx).lookup (chr c, ks) with
  | none => rfl
  | some i =>
   have : ∀ (l : List (Nd × Nat)), l.lookup (chr c, ks) = some i → ((chr c, ks), i) ∈ l := by
    intro l
    induction l with
    | nil => intro h; cases h
    | cons e r ih =>
     obtain ⟨y, w⟩ := e
     intro h
     rw [List.lookup_cons] at h
     split at h
     ·rename_i q1
      cases h
      have : (chr c, ks) = y := by simpa using q1
      rw [this]; exact .head _
     ·exact .tail _ (ih h)
   have := this _ h
   rw [List.mem_zipIdx_iff_getElem?] at this
   exact absurd (List.mem_of_getElem? this) hnew
 have hdn : dget (a.nodes.zipIdx.map knV) (ndV (chr c, ks)) = none := by rw [dget_known, hkn]; rfl
 have hzl : (a.nodes.zipIdx.map knV).length = a.nodes.length := by rw [List.length_map, List.length_zipIdx]
 have hnode : V.tup ([.str (chr c)] ++ ks.map nv) = ndV (chr c, ks) := rfl
 conv => arg 1; arg 3; whnf
 walk_at "w"
 refine w_bltn rfl (w_tupT ?_)
 refine w_addT (by rw [List.length_map]; simp; unfold limit; lia) ?_
 rw [hnode]
 walk_at "e"
 walk_at "e"
 walk_at "e"
 walk_at "e"
 walk_at "e"
 walk_at "e"
 walk_at "e"
 refine w_in (isIn_D (es := a.nodes.zipIdx.map knV) (by show some (O.dict s.numbers) = _; rw [hnum]) (okKey_known _ _)) ?_
 rw [hdn]
 refine iM nofun ?_
 walk_at "w"
 refine w_methI rfl rfl mo_Bank_require ?_
 walk_at "w"
 refine hrequire _ h1 h2 ?_
 walk_at "w"
 refine w_src ?_
 walk_at "w"
 refine w_evo1 ?_
 walk_at "w"
 refine ⟨1, rfl, ?_⟩
 walk_at "w"
 have hdrop : (V.str (chr c) :: ks.map nv).drop (Int.toNat 1) = ks.map nv := rfl
 have hl2 : (V.str (chr c) :: ks.map nv).length < limit := by simp only [List.length_cons, List.length_map]; unfold limit; lia
 have hl3 : (1 : Int) ≤ 1 ∧ (1 : Int) ≤ ((V.str (chr c) :: ks.map nv).length : Nat) := by simp only [List.length_cons]; lia
 refine w_slT hl2 hl3 ?_
 rw [hdrop]
 refine w_sofT ?_
 refine w_frF (ks.map nv) (fun i ρ μ => μ = mem (s.push (.lst [])) a ∧ Lk ρ [("self", .ref 2), ("node", ndV (chr c, ks))]) ?hk (fun i ρ μ _ _ => at_vals) ?st ?fin ⟨rfl, .cons rfl (.cons rfl (.nil _))⟩
 case hk => rfl
 case st =>
  rintro i v ρ μ hv ⟨rfl, L⟩
  have hvm := List.mem_of_getElem? hv
  obtain ⟨k, hk, rfl⟩ := List.mem_map.mp hvm
  rw [show (Src.vals (ks.map nv)).wrap i (nv k) = nv k from rfl]
  walk_at "w"
  have h0 : (0 : Int) ≤ (k : Int) := by exact Int.natCast_nonneg _
  refine iD h0 ?_
  walk_at "w"
  refine w_bltn rfl (w_len (xs := a.nodes.map ndV) rfl (by rw [List.length_map]; unfold limit; exact Nat.lt_of_le_of_lt (by assumption) (by decide)) ?_)
  rw [List.length_map]
  walk_at "w"
  have h3 : (k : Int) < (a.nodes.length : Nat) := by exact_mod_cast hks k hk
  refine iJ h3 ?_
  walk_at "w"
  rename_i L7
  exact .inl ⟨rfl, rfl, L7.sub (Lk.cons rfl (Lk.cons rfl (Lk.nil _)))⟩
 case fin =>
  rintro ρ μ ⟨rfl, L⟩
  have hlW : ∀ k ∈ ks, k < W.length := fun k hk => by rw [hWl]; exact hks k hk
  have hlD : ∀ k ∈ ks, k < D.length := fun k hk => by rw [hDl]; exact hks k hk
  have Lc := L.capt (sc := ⟨.function, [(".0", .local), ("kid", .local), ("self", .free)], false, false, []⟩) rfl [("self", .ref 2)] rfl (Lk.cons rfl (Lk.nil _))
  walk_at "w"
  refine w_bltn rfl (w_len (xs := a.nodes.map ndV) rfl (by rw [List.length_map]; unfold limit; exact Nat.lt_of_le_of_lt (by assumption) (by decide)) ?_)
  rw [List.length_map]
  walk_at "w"
  refine w_sitemD (es := a.nodes.zipIdx.map knV) (by show some (O.dict s.numbers) = _; rw [hnum]) (by rw [okKey_known, hzl]; simp; unfold limit; exact Nat.lt_of_le_of_lt (by assumption) (by decide)) ?_
  rw [dput_new _ hdn]
  have ez : a.nodes.zipIdx.map knV ++ [(ndV (chr c, ks), nv a.nodes.length)] = (a.nodes ++ [(chr c, ks)]).zipIdx.map knV := by
   rw [List.zipIdx_append, List.map_append]; simp [knV]
  rw [ez]
  have em : (mem (s.push (.lst [])) a).set 4 (.dict ((a.nodes ++ [(chr c, ks)]).zipIdx.map knV)) = mem ((s.push (.lst [])).setNum ((a.nodes ++ [(chr c, ks)]).zipIdx.map knV)) a := rfl
  rw [em]
  generalize hs1 : (s.push (.lst [])).setNum ((a.nodes ++ [(chr c, ks)]).zipIdx.map knV) = s1
  have hW1 : s1.weights = W.map .int := by rw [← hs1]; exact hW
  have hD1 : s1.depths = D.map .int := by rw [← hs1]; exact hD
  walk_at "w"
  refine w_methL rfl ?_
  walk_at "w"
  refine w_append (xs := a.nodes.map ndV) rfl (by rw [List.length_map]; unfold limit; exact Nat.lt_of_le_of_lt (by assumption) (by decide)) ?_
  have em2 : (mem s1 a).set 3 (.lst (a.nodes.map ndV ++ [ndV (chr c, ks)])) = mem s1 (a.setN (a.nodes ++ [(chr c, ks)])) := by
   rw [show a.nodes.map ndV ++ [ndV (chr c, ks)] = (a.nodes ++ [(chr c, ks)]).map ndV by simp]; rfl
  rw [em2]
  generalize hb : a.setN (a.nodes ++ [(chr c, ks)]) = b
  walk_at "w"
  refine w_methL rfl ?_
  walk_at "w"
  refine w_comp rfl (w_src ?_)
  walk_at "w"
  refine w_evo1 ?_
  walk_at "w"
  refine ⟨1, rfl, ?_⟩
  walk_at "w"
  refine w_slT hl2 hl3 ?_
  rw [hdrop]
  refine w_sofT ?_
  refine w_map (ks.map nv) (liftN fun k => .int ((W[k]?).getD 0)) rfl (by rw [List.length_map]; exact Nat.le_trans (by assumption) (Nat.le_add_left _ _)) ?_ (fun ρ2 => ?_)
  ·intro v hv
   obtain ⟨k, hk, rfl⟩ := List.mem_map.mp hv
   have L8 := Lc.upd ("kid" : Str) (nv k) rfl
   walk_at "w"
   refine w_idxL (vs := W.map .int) (listOf_ref (by show some (O.lst s1.weights) = _; rw [hW1])) (by rw [getIdx_nat (by have := hlW k hk; unfold limit; lia), List.getElem?_map, List.getElem?_eq_getElem (hlW k hk)]; rfl) ?_
   refine ⟨?_, rfl⟩
   have hkW := hlW k hk
   show V.int W[k] = .int ((W[k]?).getD 0)
   rw [List.getElem?_eq_getElem (hlW k hk)]; rfl
  rw [map_liftN, show (ks.map fun k => V.int ((W[k]?).getD 0)) = (ks.map fun k => (W[k]?).getD 0).map .int by rw [List.map_map]; rfl]
  walk_at "w"
  refine w_bltn rfl (w_sum (ints_map _) ?_)
  walk_at "w"
  refine w_append (xs := W.map .int) (by show some (O.lst s1.weights) = _; rw [hW1]) (by rw [List.length_map]; unfold limit; lia) ?_
  generalize hwn : (1 : Int) + (ks.map fun k => (W[k]?).getD 0).sum = wn
  have em3 : (mem s1 b).set 5 (.lst (W.map .int ++ [.int wn])) = mem (s1.setWt ((W ++ [wn]).map .int)) b := by
   rw [show W.map V.int ++ [.int wn] = (W ++ [wn]).map .int by simp]; rfl
  rw [em3]
  generalize hs2 : s1.setWt ((W ++ [wn]).map .int) = s2
  have hD2 : s2.depths = D.map .int := by rw [← hs2]; exact hD1
  walk_at "w"
  refine w_methL rfl ?_
  walk_at "w"
  refine w_comp rfl (w_src ?_)
  walk_at "w"
  refine w_evo1 ?_
  walk_at "w"
  refine ⟨1, rfl, ?_⟩
  walk_at "w"
  refine w_slT hl2 hl3 ?_
  rw [hdrop]
  refine w_sofT ?_
  refine w_map (ks.map nv) (liftN fun k => .int ((D[k]?).getD 0)) rfl (by rw [List.length_map]; exact Nat.le_trans (by assumption) (Nat.le_add_left _ _)) ?_ (fun ρ2 => ?_)
  ·intro v hv
   obtain ⟨k, hk, rfl⟩ := List.mem_map.mp hv
   have L8 := Lc.upd ("kid" : Str) (nv k) rfl
   walk_at "w"
   refine w_idxL (vs := D.map .int) (listOf_ref (by show some (O.lst s2.depths) = _; rw [hD2])) (by rw [getIdx_nat (by have := hlD k hk; unfold limit; lia), List.getElem?_map, List.getElem?_eq_getElem (hlD k hk)]; rfl) ?_
   refine ⟨?_, rfl⟩
   have hkD := hlD k hk
   show V.int D[k] = .int ((D[k]?).getD 0)
   rw [List.getElem?_eq_getElem (hlD k hk)]; rfl
  rw [map_liftN, show (ks.map fun k => V.int ((D[k]?).getD 0)) = (ks.map fun k => (D[k]?).getD 0).map .int by rw [List.map_map]; rfl]
  walk_at "w"
  refine w_addL (x := (ks.map fun k => (D[k]?).getD 0).map .int) (y := [.int 0]) rfl (listOf_ref (get_new _ _)) (by rw [List.length_map, List.length_map]; simp; unfold limit; lia) ?_
  rw [mem_push]
  walk_at "w"
  obtain ⟨i0, r0, hir⟩ : ∃ i0 r0, (ks.map fun k => (D[k]?).getD 0) ++ [0] = i0 :: r0 := by
   cases (ks.map fun k => (D[k]?).getD 0) with
   | nil => exact ⟨_, _, rfl⟩
   | cons x r => exact ⟨_, _, rfl⟩
  have hir2 : (ks.map fun k => (D[k]?).getD 0).map V.int ++ [.int 0] = (i0 :: r0).map .int := by rw [← hir]; simp
  rw [hir2]
  refine w_bltn rfl (w_maxL (ints_map _) ?_)
  walk_at "w"
  refine w_append (xs := D.map .int) (by show some (O.lst s2.depths) = _; rw [hD2]) (by rw [List.length_map]; unfold limit; lia) ?_
  generalize hdn2 : (1 : Int) + r0.foldl max i0 = dn
  have em4 : (mem (s2.push (.lst [.int 0])) b).set 6 (.lst (D.map .int ++ [.int dn])) = mem ((s2.push (.lst [.int 0])).setDp ((D ++ [dn]).map .int)) b := by
   rw [show D.map V.int ++ [.int dn] = (D ++ [dn]).map .int by simp]; rfl
  rw [em4]
  walk_at "w"
  refine w_bltn rfl (w_len (xs := b.nodes.map ndV) rfl (by rw [List.length_map, ← hb]; show (a.nodes ++ _).length < limit; rw [List.length_append]; simp; unfold limit; lia) ?_)
  walk_at "w"
  have hbl : (((b.nodes.map ndV).length : Nat) : Int) - 1 = ((a.nodes.length : Nat) : Int) := by
   rw [List.length_map, ← hb]
   show (((a.nodes ++ [(chr c, ks)]).length : Nat) : Int) - 1 = _
   rw [List.length_append]; simp
  rw [hbl, ← hb]
  exact q wn dn _ (by rw [← hs2, ← hs1])
end
set_option tactic.hygienic false
noncomputable def St.setLots (s : St) (l : List Nat) : St := { s with lots := l }
noncomputable def St.setBd (s : St) (b : Nat) : St := { s with bound := b }
noncomputable def chV : Ch → V
 | .made n => .tup [.str "made", nv n]
 | .known d => .tup [.str "known", ndV d]
 | .edge .. => .none
noncomputable def Ch.plain : Ch → Bool
 | .edge .. => false
 | _ => true
section
variable {s : St} {a : A} {Q : V → Mem → Prop}
theorem hmake (n : Nat) (h8 : a.par.length ≤ 7) (hl8 : s.lots.length ≤ 7) (q : ∀ v, Q v (mem ((s.push (.lst [nv s.lots.length])).setLots (s.lots ++ [s.tail.length])) (a.setP (a.par ++ [a.par.length])))) : W2 (callD (n + 50) "Unions" (nthM 8 1) [.ref 7] (mem s a)) Q := by
 conv => arg 1; arg 3; whnf
 walk_at "w"
 refine w_methL rfl ?_
 walk_at "w"
 refine w_bltn rfl (w_len (xs := a.par.map nv) rfl (by rw [List.length_map]; unfold limit; exact Nat.lt_of_le_of_lt (by assumption) (by decide)) ?_)
 rw [List.length_map]
 walk_at "w"
 refine w_append (xs := a.par.map nv) rfl (by rw [List.length_map]; unfold limit; exact Nat.lt_of_le_of_lt (by assumption) (by decide)) ?_
 have e1 : (mem s a).set 8 (.lst (a.par.map nv ++ [nv a.par.length])) = mem s (a.setP (a.par ++ [a.par.length])) := by
  rw [show a.par.map nv ++ [nv a.par.length] = (a.par ++ [a.par.length]).map nv by simp]; rfl
 rw [e1]
 generalize hb : a.setP (a.par ++ [a.par.length]) = b
 walk_at "w"
 refine w_methL rfl ?_
 walk_at "w"
 refine w_bltn rfl (w_len (xs := s.lots.map lotV) rfl (by rw [List.length_map]; unfold limit; exact Nat.lt_of_le_of_lt (by assumption) (by decide)) ?_)
 rw [List.length_map]
 walk_at "w"
 rw [mem_push, mem_len]
 refine w_append (xs := s.lots.map lotV) rfl (by rw [List.length_map]; unfold limit; exact Nat.lt_of_le_of_lt (by assumption) (by decide)) ?_
 have e2 : (mem (s.push (.lst [nv s.lots.length])) b).set 9 (.lst (s.lots.map lotV ++ [.ref (s.tail.length + 20)])) = mem ((s.push (.lst [nv s.lots.length])).setLots (s.lots ++ [s.tail.length])) b := by
  rw [show s.lots.map lotV ++ [.ref (s.tail.length + 20)] = (s.lots ++ [s.tail.length]).map lotV by simp [lotV]]; rfl
 rw [e2]
 walk_at "w"
 refine w_bltn rfl (w_len (xs := b.par.map nv) rfl (by rw [List.length_map, ← hb]; show (a.par ++ _).length < limit; rw [List.length_append]; simp; unfold limit; lia) ?_)
 walk_at "w"
 rw [← hb]
 exact q _
/-- Levels.look_at of a number that is new -/
theorem hlookB (S : Shp a) (L : Lim a) (n : Nat) {x : Nat} {d : Nd} (hx : a.nodes[x]? = some d) (hm : x = a.made) (hk : a.known.lookup (sigOf a.par d) = none) (hc : s.changes.length ≤ 1000)
  (q : ∀ v, Q v (mem (s.setCh (s.changes ++ [chV (.made x), chV (.known (sigOf a.par d))])) ((a.setMade (x + 1)).setK (a.known ++ [(sigOf a.par d, x)])))) : W2 (callD (n + 220) "Levels" (nthM 12 4) [.ref 1, nv x] (mem s a)) Q := by
 conv => arg 1; arg 3; whnf
 walk_at "w"
 have e1 : ((x : Nat) : Int) = a.made := by exact_mod_cast hm
 refine iD e1 ?_
 walk_at "w"
 refine w_methL rfl ?_
 walk_at "w"
 refine app_changes s.changes rfl (by exact Nat.le_trans (by assumption) (Nat.le_add_left _ _)) ?_
 generalize hs1 : s.setCh (s.changes ++ [.tup [.str "made", nv x]]) = s1
 have hc1 : s1.changes = s.changes ++ [.tup [.str "made", nv x]] := by rw [← hs1]; rfl
 walk_at "w"
 have em : (mem s1 a).set 1 (.inst "Levels" (put [("bank", .ref 2), ("unions", .ref 7), ("edges", .ref 11), ("forest", .ref 12), ("known", .ref 13), ("above", .ref 14), ("waiting", .ref (waddr s1.wa)), ("backs", .int s1.backs), ("changes", .ref 16), ("marks", .ref 17), ("made", nv a.made)] "made" (.int ((x : Int) + 1)))) = mem s1 (a.setMade (x + 1)) := rfl
 rw [em]
 have S1 : Shp (a.setMade (x + 1)) := ⟨S.up, S.len, S.few, S.kids⟩
 have L1 : Lim (a.setMade (x + 1)) := ⟨L.edges, L.forest, L.known, L.ws, L.ch, L.ab, L.lens⟩
 refine w_methI rfl rfl mo_Levels_node ?_
 walk_at "w"
 refine hnode S1 _ _ hx ?_
 walk_at "w"
 refine in_known _ ?_
 have hk1 : (a.setMade (x + 1)).known.lookup (sigOf (a.setMade (x + 1)).par d) = none := hk
 rw [hk1]
 refine iP rfl ?_
 walk_at "w"
 refine w_methL rfl ?_
 walk_at "w"
 refine app_changes _ hc1 (by simp; exact Nat.le_trans (by assumption) (Nat.le_add_left _ _)) ?_
 walk_at "w"
 refine w_bsupE rfl (w_sup rfl rfl sup_look ?_)
 walk_at "w"
 refine look_new S1 L1 _ hx hk1 ?_
 intro v
 walk_at "w"
 have := q .none
 rw [show s.changes ++ [chV (.made x), chV (.known (sigOf a.par d))] = s.changes ++ [.tup [.str "made", nv x]] ++ [.tup [.str "known", ndV (sigOf a.par d)]] by simp [chV]] at this
 rw [← hs1]
 exact this
theorem dedup_sort (x y : Nat) : ∃ cs : List Nat, sortI (dedupI [(x : Int), y]) = cs.map (fun (c : Nat) => (c : Int)) ∧ cs.Nodup ∧ ∀ c, c ∈ cs ↔ c ∈ [x, y] := by
 by_cases h : x = y
 ·subst h
  refine ⟨[x], ?_, by simp, by simp⟩
  simp [dedupI, sortI, insI]
 ·by_cases h2 : x ≤ y
  ·refine ⟨[x, y], ?_, by simp [h], by simp⟩
   have h3 : ¬ ((x : Int) = y) := by lia
   have h4 : (x : Int) ≤ y := by exact Int.ofNat_le.mpr (by assumption)
   simp [dedupI, sortI, insI, h3, h4]
  ·refine ⟨[y, x], ?_, by simp; exact fun e => h e.symm, by simp; lia⟩
   have h3 : ¬ ((x : Int) = y) := by lia
   have h4 : ¬ (x : Int) ≤ y := by lia
   simp [dedupI, sortI, insI, h3, h4]
theorem dedup_all (ks : List Nat) (h : ks.length ≤ 2) : ∃ cs : List Nat, sortI (dedupI (ks.map fun (k : Nat) => (k : Int))) = cs.map (fun (c : Nat) => (c : Int)) ∧ cs.Nodup ∧ ∀ c, c ∈ cs ↔ c ∈ ks := by
 match ks, h with
 | [], _ => exact ⟨[], rfl, by simp, by simp⟩
 | [x], _ => exact ⟨[x], by simp [dedupI, sortI, insI], by simp, by simp⟩
 | [x, y], _ => exact dedup_sort x y
end
set_option tactic.hygienic true
set_option tactic.hygienic false
/-- how a heap lies while it is built -/
structure BRep (s : St) (a : A) : Prop where
 lotsN : s.lots.length = a.nodes.length
 lotsD : s.lots.Nodup
 lotsB : ∀ j ∈ s.lots, j < s.tail.length
 lens : ∀ i j : Nat, s.lots[i]? = some j → ∃ v, s.tail[j]? = some (.lst [v])
 wa : s.wa = none
 o15 : s.o15 = .lst []
 keys : s.above.map (·.1) = (List.range a.nodes.length).map nv
 refs : ∀ c us, a.ab c = some us → ∃ j, dget s.above (nv c) = some (.ref (j + 20)) ∧ s.tail[j]? = some (.lst (us.map nv)) ∧ j ∉ s.lots
 non : ∀ c, a.ab c = none → dget s.above (nv c) = none
 inj : ∀ c c' j, dget s.above (nv c) = some (.ref (j + 20)) → dget s.above (nv c') = some (.ref (j + 20)) → c = c'
 ch : s.changes = a.ch.map chV
 plain : ∀ c ∈ a.ch, c.plain = true
 marks : s.marks = []
 num : s.numbers = a.nodes.zipIdx.map knV
 wt : ∃ W : List Int, s.weights = W.map .int ∧ W.length = a.nodes.length
 dp : ∃ D : List Int, s.depths = D.map .int ∧ D.length = a.nodes.length
/-- what a heap is while it is built -/
structure BInv (a : A) : Prop where
 par : a.par = List.range a.nodes.length
 len : ∀ i, a.len i = 1
 mrg : a.mrg = []
 edges : a.edges = []
 forest : a.forest = []
 ws : a.ws = []
 mks : a.mks = []
 made : a.made = a.nodes.length
 knS : ∀ (n : Nat) d, a.nodes[n]? = some d → a.known.lookup d = some n
 knO : ∀ sg o, a.known.lookup sg = some o → a.nodes[o]? = some sg
 kl : a.known.length = a.nodes.length
 chl : a.ch.length = 2 * a.nodes.length
 abS : ∀ c, c < a.nodes.length → ∃ us, a.ab c = some us
 abN : ∀ c, a.nodes.length ≤ c → a.ab c = none
 use : ∀ (n : Nat) d k, a.nodes[n]? = some d → k ∈ d.2 → n ∈ a.us k
 usN : ∀ c, ∀ n ∈ a.us c, n < a.nodes.length
 usb : ∀ c, (a.us c).length ≤ a.nodes.length - 3
 kids : ∀ d ∈ a.nodes, d.2.length ≤ 2 ∧ ∀ k ∈ d.2, k < a.nodes.length
 five : a.nodes.length ≤ 5
 nd : a.nodes.Nodup
theorem nodup_nv : ∀ {l : List Nat}, l.Nodup → (l.map nv).Nodup
 | [], _ => .nil
 | a :: r, h => by
  rw [List.nodup_cons] at h
  rw [List.map_cons, List.nodup_cons]
  refine ⟨fun q => ?_, nodup_nv h.2⟩
  obtain ⟨b, hb, e⟩ := List.mem_map.mp q
  rw [nv_inj e] at hb
  exact h.1 hb
theorem up_range (n : Nat) : Up (List.range n) := by
 intro i b h
 rw [List.getElem?_eq_some_iff] at h
 obtain ⟨h1, h2⟩ := h
 rw [List.getElem_range] at h2
 exact Nat.le_of_eq (.symm (by assumption))
theorem range_get {n i : Nat} (h : i < n) : (List.range n)[i]? = some i := by
 rw [List.getElem?_eq_getElem (by rw [List.length_range]; exact h), List.getElem_range]
theorem find_range {n i : Nat} (h : i < n) : find (List.range n) i = i := find_root (range_get h)
section
variable {s : St} {a : A}
theorem BRep.abl (B : BRep s a) : s.above.length = a.nodes.length := by
 have := congrArg List.length B.keys
 simpa using this
theorem BRep.rep (B : BRep s a) (I : BInv a) (hb : s.bound = s.tail.length) : Rep s a where
 lotsN := B.lotsN
 lotsD := B.lotsD
 lotsB := fun j h => by rw [hb]; exact B.lotsB j h
 lens := fun i j h => by obtain ⟨v, hv⟩ := B.lens i j h; exact ⟨[v], hv, (I.len i).symm⟩
 bnd := by rw [hb]; exact Nat.le_refl _
 wa := by unfold WaOk; rw [B.wa]; show s.o15 = _; rw [B.o15, I.ws]; rfl
 abK := fun k hk => by
  rw [B.keys] at hk
  obtain ⟨c, _, rfl⟩ := List.mem_map.mp hk
  exact ⟨c, rfl⟩
 abD := by
  rw [B.keys]
  exact nodup_nv List.nodup_range
 abN := B.non
 abS := fun c us h => by
  obtain ⟨j, h1, h2, h3⟩ := B.refs c us h
  exact ⟨_, h1, .inr ⟨j, by rw [hb]; exact (List.getElem?_eq_some_iff.mp h2).1, h3, rfl, h2⟩⟩
 abL := by rw [B.abl, I.mrg]; have := I.five; simp; exact Nat.le_trans (by assumption) (Nat.le_add_left _ _)
 ch := by
  rw [B.ch]
  have := B.plain
  generalize a.ch = l at this
  induction l with
  | nil => exact .nil
  | cons c r ih =>
   refine .cons ?_ (ih fun c hc => this c (.tail _ hc))
   have := this c (.head _)
   cases c with
   | made n => exact .made n
   | known d => exact .known d
   | edge _ _ _ _ => cases this
 mrk := by rw [B.marks, I.mks]; exact .nil
theorem BInv.rest (I : BInv a) : Rest [] a := by
 have hfind : ∀ x, x < a.nodes.length → find a.par x = x := fun x hx => by rw [I.par]; exact find_range hx
 have hsig : ∀ d ∈ a.nodes, sigOf a.par d = d := by
  intro d hd
  unfold sigOf
  have : d.2.map (find a.par) = d.2 := by
   rw [List.map_congr_left (g := id) fun k hk => hfind k ((I.kids d hd).2 k hk)]
   simp
  rw [this]
 have h5 := I.five
 have h10 : 2 * a.nodes.length ≤ 10 := Nat.mul_le_mul_left 2 h5
 have hinv : Inv [] a := {
  up := by rw [I.par]; exact up_range _
  len := by rw [I.par]; simp
  few := by exact Nat.le_trans (by assumption) (Nat.le_add_left _ _)
  kids := I.kids
  edges := by rw [I.edges]; simp
  forest := by rw [I.forest]; simp
  known := by rw [I.kl]; exact Nat.le_trans (by assumption) (Nat.le_add_left _ _)
  ws := by rw [I.ws]; simp
  ch := by rw [I.chl]; exact Nat.le_trans h10 (by decide)
  ab := fun c us h => by
   have := I.usb c
   rw [A.us_eq h] at this
   exact Nat.le_trans this (Nat.le_trans (Nat.sub_le _ _) (Nat.le_trans h5 (by decide)))
  lens := fun i => by rw [I.len]; exact Nat.le_add_left _ _
  abR := fun c h => by
   rw [I.par] at h
   have := (List.getElem?_eq_some_iff.mp h).1
   exact I.abS c (by simpa using this)
  kn := fun sg o h => (List.getElem?_eq_some_iff.mp (I.knO sg o h)).1
  made := I.made
  sound := fun x hx => by rw [hfind x hx]; exact .refl x
  kn1 := fun sg o h => ⟨sg, I.knO sg o h, rfl, rfl, fun i u v hu hv => by rw [hu] at hv; cases hv; exact .refl _⟩
  use := fun n d k hn hk => by rw [hfind k ((I.kids d (List.mem_of_getElem? hn)).2 k hk)]; exact I.use n d k hn hk
  usN := I.usN
  wsN := fun n h => by rw [I.ws] at h; cases h
  five := h5
  roots := by
   rw [I.mrg]
   show rootsN a.par a.nodes.length + 0 = _
   unfold rootsN
   rw [I.par]
   have : (List.range a.nodes.length).countP (fun c => (List.range a.nodes.length)[c]? == some c) = (List.range a.nodes.length).length := by
    rw [List.countP_eq_length]
    intro c hc
    rw [range_get (List.mem_range.mp hc)]; simp
   rw [this]; simp
  usb := fun c => by have := I.usb c; rw [I.mrg]; exact Nat.le_trans this (Nat.sub_le_sub_right h5 3)
  lenb := fun i => by rw [I.len, I.mrg]; simp
  eb := by rw [I.edges]; simp
  fb := by rw [I.forest]; simp
  kb := by rw [I.kl, I.chl]; exact Nat.le_mul_of_pos_left _ (by decide)
  pot := by rw [I.ws, I.chl, I.mrg]; simp; exact Nat.le_trans h10 (by decide)
  edp := fun e h => by rw [I.edges] at h; cases h }
 exact {
  inv := hinv
  done := fun n d hn => .inr ⟨n, by rw [hsig d (List.mem_of_getElem? hn)]; exact I.knS n d hn, rfl⟩
  ws := I.ws
  mks := I.mks
  told := fun p h => nomatch h
  inN := fun p h => nomatch h
  room := by unfold total; rw [I.ws, I.chl, I.mrg]; simp; exact Nat.le_trans h10 (by decide) }
noncomputable def A.addN (a : A) (d : Nd) : A :=
 { a with nodes := a.nodes ++ [d], par := a.par ++ [a.nodes.length], known := a.known ++ [(d, a.nodes.length)], ab := fun c => if c = a.nodes.length then some [] else if c ∈ d.2 then (a.ab c).map (· ++ [a.nodes.length]) else a.ab c, ch := a.ch ++ [.made a.nodes.length, .known d], made := a.nodes.length + 1 }
theorem get_app {α : Type} {l : List α} {d e : α} {n : Nat} (h : (l ++ [d])[n]? = some e) : l[n]? = some e ∨ (n = l.length ∧ e = d) := by
 by_cases q : n < l.length
 ·rw [List.getElem?_append_left q] at h; exact .inl h
 ·have h2 := (List.getElem?_eq_some_iff.mp h).1
  have : n = l.length := by rw [len_snoc] at h2; exact Nat.le_antisymm (Nat.le_of_lt_succ h2) (Nat.le_of_not_lt q)
  subst this
  simp at h
  exact .inr ⟨rfl, h.symm⟩
theorem BInv.add (I : BInv a) {d : Nd} (hd : d ∉ a.nodes) (hk : d.2.length ≤ 2 ∧ ∀ k ∈ d.2, k < a.nodes.length) (h3 : d.2 ≠ [] → 3 ≤ a.nodes.length) (h5 : a.nodes.length + 1 ≤ 5) : BInv (a.addN d) := by
 have hl := len_snoc a.nodes d
 have lt' : ∀ {m}, m < a.nodes.length → m < (a.nodes ++ [d]).length := fun h => by rw [hl]; exact Nat.lt_succ_of_lt h
 have hus : ∀ c, (a.addN d).us c = if c = a.nodes.length then [] else if c ∈ d.2 then a.us c ++ [a.nodes.length] else a.us c := by
  intro c
  show ((if c = a.nodes.length then some [] else if c ∈ d.2 then (a.ab c).map (· ++ [a.nodes.length]) else a.ab c).getD []) = _
  split
  ·rfl
  ·split
   ·rename_i h
    obtain ⟨us, hu⟩ := I.abS c (hk.2 c h)
    rw [hu, A.us_eq hu]; rfl
   ·rfl
 have hkn : a.known.lookup d = none := by
  cases h : a.known.lookup d with
  | none => rfl
  | some o => exact absurd (List.mem_of_getElem? (I.knO d o h)) hd
 have husN : a.us a.nodes.length = [] := by simp [A.us, I.abN _ (Nat.le_refl _)]
 refine {
  par := by show a.par ++ [a.nodes.length] = List.range (a.nodes ++ [d]).length; rw [I.par, hl, List.range_succ]
  len := I.len, mrg := I.mrg, edges := I.edges, forest := I.forest, ws := I.ws, mks := I.mks
  made := hl.symm
  knS := fun n e h => ?_
  knO := fun sg o h => ?_
  kl := by show (a.known ++ [_]).length = (a.nodes ++ [d]).length; rw [hl, List.length_append, I.kl]; rfl
  chl := by show (a.ch ++ [_, _]).length = 2 * (a.nodes ++ [d]).length; rw [hl, List.length_append, I.chl]; rfl
  abS := fun c h => ?_
  abN := fun c h => ?_
  use := fun n e k hn hke => ?_
  usN := fun c n hn => ?_
  usb := fun c => ?_
  kids := fun e he => ?_
  five := Nat.le_trans (Nat.le_of_eq hl) h5
  nd := ?_ }
 ·rcases get_app h with h | ⟨rfl, rfl⟩
  ·exact lookup_app (I.knS n e h)
  ·exact lookup_self hkn
 ·show (a.nodes ++ [d])[o]? = some sg
  rcases lookup_app2 h with h | ⟨rfl, rfl⟩
  ·have := I.knO sg o h
   rw [List.getElem?_append_left (List.getElem?_eq_some_iff.mp this).1]; exact this
  ·simp
 ·have h : c < a.nodes.length + 1 := Nat.lt_of_lt_of_eq h hl
  show ∃ us, (if c = a.nodes.length then some [] else if c ∈ d.2 then (a.ab c).map (· ++ [a.nodes.length]) else a.ab c) = some us
  split
  ·exact ⟨_, rfl⟩
  ·obtain ⟨us, hu⟩ := I.abS c (Nat.lt_of_le_of_ne (Nat.le_of_lt_succ h) ‹_›)
   split
   ·exact ⟨us ++ [a.nodes.length], by rw [hu]; rfl⟩
   ·exact ⟨us, hu⟩
 ·have h : a.nodes.length + 1 ≤ c := Nat.le_trans (Nat.le_of_eq hl.symm) h
  show (if c = a.nodes.length then some [] else if c ∈ d.2 then (a.ab c).map (· ++ [a.nodes.length]) else a.ab c) = none
  rw [if_neg (Nat.ne_of_gt h), if_neg (fun q => Nat.lt_irrefl _ (Nat.lt_trans (hk.2 c q) h))]
  exact I.abN c (Nat.le_of_lt h)
 ·rw [hus]
  rcases get_app hn with hn | ⟨rfl, rfl⟩
  ·have hkN := (I.kids e (List.mem_of_getElem? hn)).2 k hke
   rw [if_neg (by exact Nat.ne_of_lt (by assumption))]
   have := I.use n e k hn hke
   split
   ·exact List.mem_append_left _ this
   ·exact this
  ·rw [if_neg (by have := hk.2 k hke; exact Nat.ne_of_lt (by assumption)), if_pos hke]
   exact List.mem_append_right _ (.head _)
 ·rw [hus] at hn
  show n < (a.nodes ++ [d]).length
  split at hn
  ·cases hn
  ·split at hn
   ·rcases List.mem_append.mp hn with h | h
    ·exact lt' (I.usN c n h)
    ·rw [List.mem_singleton] at h; rw [h, hl]; exact Nat.lt_succ_self _
   ·exact lt' (I.usN c n hn)
 ·rw [hus]
  show _ ≤ (a.nodes ++ [d]).length - 3
  rw [hl]
  have := I.usb c
  split
  ·exact Nat.zero_le _
  ·split
   ·rename_i h
    rw [len_snoc, Nat.sub_add_comm (h3 (by rintro e; rw [e] at h; cases h))]; exact Nat.succ_le_succ this
   ·exact Nat.le_trans this (Nat.sub_le_sub_right (Nat.le_succ _) 3)
 ·have he : e ∈ a.nodes ++ [d] := he
  show _ ∧ ∀ k ∈ e.2, k < (a.nodes ++ [d]).length
  rcases List.mem_append.mp he with h | h
  ·have := I.kids e h
   exact ⟨this.1, fun k hk' => lt' (this.2 k hk')⟩
  ·rw [List.mem_singleton] at h; subst h
   exact ⟨hk.1, fun k hk' => lt' (hk.2 k hk')⟩
 ·show (a.nodes ++ [d]).Nodup
  rw [List.nodup_append]
  exact ⟨I.nd, by simp, by rintro x hx y hy rfl; rw [List.mem_singleton] at hy; subst hy; exact hd hx⟩
end
set_option tactic.hygienic true
noncomputable def St.setTl (s : St) (t : List O) : St := { s with tail := t }
theorem mem_congr (s : St) {a b : A} (h1 : a.nodes = b.nodes) (h2 : a.par = b.par) (h3 : a.mrg = b.mrg) (h4 : a.edges = b.edges) (h5 : a.forest = b.forest) (h6 : a.known = b.known) (h7 : a.made = b.made) : mem s a = mem s b := by
 unfold mem levO
 rw [h1, h2, h3, h4, h5, h6, h7]
theorem setSort_ks {ks : List Nat} (hl : ks.length ≤ 2) (hk : ∀ k ∈ ks, k < 8) : ∃ cs : List Nat, setSort (ks.map nv) = some (.lst (cs.map nv)) ∧ cs.Nodup ∧ (∀ c, c ∈ cs ↔ c ∈ ks) ∧ cs.length ≤ 2 := by
 obtain ⟨cs, h1, h2, h3⟩ := dedup_all ks hl
 have e1 : ks.map nv = (ks.map fun (k : Nat) => (k : Int)).map V.int := by rw [List.map_map]; rfl
 refine ⟨cs, ?_, h2, h3, ?_⟩
 ·unfold setSort
  rw [e1, ints_map]
  have hc : (ks.map fun (k : Nat) => (k : Int)).length ≤ 2 ∧ (ks.map fun (k : Nat) => (k : Int)).all (fun i => decide (0 ≤ i) && decide (i < 8)) = true := by
   refine ⟨by rw [List.length_map]; exact hl, ?_⟩
   rw [List.all_eq_true]
   intro i hi
   obtain ⟨k, hk', rfl⟩ := List.mem_map.mp hi
   have := hk k hk'
   simp; exact Int.ofNat_lt.mpr (by assumption)
  simp only [hc, and_self, if_true]
  rw [h1, List.map_map]
  rfl
 ·match ks, hl, h3 with
  | [], _, h3 =>
   have : cs = [] := List.eq_nil_iff_forall_not_mem.mpr fun c hc => by have := (h3 c).mp hc; cases this
   rw [this]; simp
  | [x], _, h3 =>
   match cs, h2, h3 with
   | [], _, _ => simp
   | [y], _, _ => simp
   | y :: z :: r, h2, h3 =>
    have hy : y = x := by simpa using (h3 y).mp (by simp)
    have hz : z = x := by simpa using (h3 z).mp (by simp)
    rw [hy, hz] at h2; simp at h2
  | [x, x'], _, h3 =>
   match cs, h2, h3 with
   | [], _, _ => simp
   | [y], _, _ => simp
   | [y, z], _, _ => simp
   | y :: z :: u :: r, h2, h3 =>
    have hy : y = x ∨ y = x' := by simpa using (h3 y).mp (by simp)
    have hz : z = x ∨ z = x' := by simpa using (h3 z).mp (by simp)
    have hu : u = x ∨ u = x' := by simpa using (h3 u).mp (by simp)
    exfalso
    simp only [List.nodup_cons, List.mem_cons, not_or] at h2
    obtain ⟨⟨a1, a2, _⟩, ⟨a3, _⟩, _⟩ := h2
    rcases hy with rfl | rfl <;> rcases hz with rfl | rfl <;> rcases hu with rfl | rfl <;> simp_all
section
variable {s : St} {a : A} {Q : V → Mem → Prop}
theorem husize (n : Nat) (h : a.par.length ≤ 8) (q : Q (nv a.par.length) (mem s a)) : W2 (callD (n + 20) "Unions" (nthM 8 2) [.ref 7] (mem s a)) Q := by
 conv => arg 1; arg 3; whnf
 walk_at "w"
 refine w_bltn rfl (w_len (xs := a.par.map nv) rfl (by rw [List.length_map]; exact lim8 h) ?_)
 walk_at "w"
 rw [List.length_map]
 exact q
theorem ref_inj {j k : Nat} (h : some (V.ref (j + 20)) = some (V.ref (k + 20))) : j = k := by injection h with h; injection h with h; exact Nat.add_right_cancel h
theorem hadd (B : BRep s a) (I : BInv a) (n : Nat) {c : Nat} {ks : List Nat} (h1 : 97 ≤ c) (h2 : c ≤ 122) (hks : ∀ k ∈ ks, k < a.nodes.length) (hkl : ks.length ≤ 2) (h3 : ks ≠ [] → 3 ≤ a.nodes.length) (h5 : a.nodes.length + 1 ≤ 5) (hnew : (chr c, ks) ∉ a.nodes)
  (q : ∀ v s', BRep s' (a.addN (chr c, ks)) → s'.clock = s.clock → s'.o18 = s.o18 → s'.o19 = s.o19 → s'.backs = s.backs → Q v (mem s' (a.addN (chr c, ks)))) : W2 (callD (n + 300) "Heap" (nthM 10 3) [.ref 1, .str (chr c), .tup (ks.map nv)] (mem s a)) Q := by
 have I' := I.add hnew ⟨hkl, hks⟩ h3 h5
 obtain ⟨W, hW, hWl⟩ := B.wt
 obtain ⟨D, hD, hDl⟩ := B.dp
 have hparl : a.par.length = a.nodes.length := by rw [I.par]; simp
 conv => arg 1; arg 3; whnf
 walk_at "w"
 refine w_methI rfl rfl mo_Bank_take ?_
 walk_at "w"
 refine htake _ h1 h2 hks hkl I.five hnew B.num hW hD hWl hDl ?_
 rintro w d s1 hs1
 have t1 : s1.tail = s.tail ++ [.lst []] ++ [.lst [.int 0]] := by rw [hs1]; rfl
 have e1 : s1.clock = s.clock ∧ s1.o18 = s.o18 ∧ s1.o19 = s.o19 ∧ s1.backs = s.backs ∧ s1.lots = s.lots ∧ s1.above = s.above ∧ s1.wa = s.wa ∧ s1.o15 = s.o15 ∧ s1.changes = s.changes ∧ s1.marks = s.marks := by rw [hs1]; exact ⟨rfl, rfl, rfl, rfl, rfl, rfl, rfl, rfl, rfl, rfl⟩
 have n1 : s1.numbers = (a.nodes ++ [(chr c, ks)]).zipIdx.map knV ∧ s1.weights = (W ++ [w]).map .int ∧ s1.depths = (D ++ [d]).map .int := by rw [hs1]; exact ⟨rfl, rfl, rfl⟩
 clear hs1
 walk_at "w"
 refine w_methI rfl rfl mo_Unions_size ?_
 walk_at "w"
 refine husize _ (by show a.par.length ≤ 8; rw [I.par, List.length_range]; exact Nat.le_trans I.five (by decide)) ?_
 walk_at "w"
 have hlt : ¬ ((a.nodes.length : Nat) : Int) < ((a.setN (a.nodes ++ [(chr c, ks)])).par.length : Nat) := by
  show ¬ ((a.nodes.length : Nat) : Int) < (a.par.length : Nat)
  rw [I.par, List.length_range]; exact Int.lt_irrefl _
 refine iN hlt ?_
 walk_at "w"
 refine w_methI rfl rfl mo_Unions_make ?_
 walk_at "w"
 refine hmake _ (by show a.par.length ≤ 7; rw [I.par, List.length_range]; exact Nat.le_trans I.five (by decide)) (by rw [e1.2.2.2.2.1, B.lotsN]; exact Nat.le_trans (Nat.le_trans (Nat.le_add_right _ _) (by assumption)) (by decide)) ?_
 intro v
 have hpar2 : (a.setN (a.nodes ++ [(chr c, ks)])).par ++ [(a.setN (a.nodes ++ [(chr c, ks)])).par.length] = List.range (a.nodes.length + 1) := by
  show a.par ++ [a.par.length] = _
  rw [hparl, I.par, List.range_succ]
 rw [hpar2]
 generalize ha2 : (a.setN (a.nodes ++ [(chr c, ks)])).setP (List.range (a.nodes.length + 1)) = a2
 have hN2 : a2.nodes = a.nodes ++ [(chr c, ks)] := by rw [← ha2]; rfl
 have hP2 : a2.par = List.range (a.nodes.length + 1) := by rw [← ha2]; rfl
 have hN2l : a2.nodes.length = a.nodes.length + 1 := by rw [hN2]; simp
 have S2 : Shp a2 := ⟨by rw [hP2]; exact up_range _, by rw [hP2, hN2l]; simp, by rw [hN2l]; exact Nat.le_trans h5 (by decide), by
  rw [hN2]
  intro e he
  rcases List.mem_append.mp he with h | h
  ·have := I.kids e h
   exact ⟨this.1, fun k hk => by have := this.2 k hk; rw [List.length_append]; simp; solve_by_elim (maxDepth := 4) only [*, Nat.add_le_add, Nat.mul_le_mul, Nat.le_refl, Nat.succ_le_succ, Nat.le_trans, Nat.le_of_lt, Nat.pos_of_ne_zero, Nat.sub_le, Nat.le_sub_of_add_le]⟩
  ·rw [List.mem_singleton] at h; subst h
   exact ⟨hkl, fun k hk => by have := hks k hk; rw [List.length_append]; simp; solve_by_elim (maxDepth := 4) only [*, Nat.add_le_add, Nat.mul_le_mul, Nat.le_refl, Nat.succ_le_succ, Nat.le_trans, Nat.le_of_lt, Nat.pos_of_ne_zero, Nat.sub_le, Nat.le_sub_of_add_le]⟩⟩
 generalize hs2 : (s1.push (.lst [nv s1.lots.length])).setLots (s1.lots ++ [s1.tail.length]) = s2
 have t2 : s2.tail = s1.tail ++ [.lst [nv s1.lots.length]] := by rw [← hs2]; rfl
 have l2 : s2.lots = s.lots ++ [s1.tail.length] := by rw [← hs2, ← e1.2.2.2.2.1]; rfl
 have ab2 : s2.above = s.above := by rw [← hs2, ← e1.2.2.2.2.2.1]; rfl
 have e2 : s2.clock = s.clock ∧ s2.o18 = s.o18 ∧ s2.o19 = s.o19 ∧ s2.backs = s.backs ∧ s2.wa = s.wa ∧ s2.o15 = s.o15 ∧ s2.changes = s.changes ∧ s2.marks = s.marks := by
  obtain ⟨h1, h2, h3, h4, h5, h6, h7, h8, h9, h10⟩ := e1
  rw [← hs2]; exact ⟨h1, h2, h3, h4, h7, h8, h9, h10⟩
 have n2 : s2.numbers = (a.nodes ++ [(chr c, ks)]).zipIdx.map knV ∧ s2.weights = (W ++ [w]).map .int ∧ s2.depths = (D ++ [d]).map .int := by rw [← hs2]; exact n1
 have hable : s.above.length = a.nodes.length := B.abl
 have hokN : okKey s.above (nv a.nodes.length) = true := by
  simp only [okKey, V.key, V.atom, Bool.true_and, List.all_eq_true]
  intro e he
  have : e.1 ∈ s.above.map (·.1) := List.mem_map_of_mem he
  rw [B.keys] at this
  obtain ⟨c', _, h⟩ := List.mem_map.mp this
  rw [← h]; rfl
 have hokA : ∀ c', okKey s.above (nv c') = true := fun c' => hokN
 have hdN : dget s.above (nv a.nodes.length) = none := B.non _ (I.abN _ (Nat.le_refl _))
 walk_at "w"
 rw [mem_push, mem_len]
 refine set_above s.above ab2 hokN (by rw [hable]; have := I.five; unfold limit; exact Nat.lt_of_le_of_lt (by assumption) (by decide)) ?_
 rw [dput_new _ hdN]
 generalize hs3 : (s2.push (.lst [])).setAb (s.above ++ [(nv a.nodes.length, .ref (s2.tail.length + 20))]) = s3
 have t3 : s3.tail = s2.tail ++ [.lst []] := by rw [← hs3]; rfl
 have l3 : s3.lots = s2.lots := by rw [← hs3]; rfl
 have e3 : s3.clock = s.clock ∧ s3.o18 = s.o18 ∧ s3.o19 = s.o19 ∧ s3.backs = s.backs ∧ s3.wa = s.wa ∧ s3.o15 = s.o15 ∧ s3.changes = s.changes ∧ s3.marks = s.marks := by rw [← hs3]; exact e2
 have n3 : s3.numbers = (a.nodes ++ [(chr c, ks)]).zipIdx.map knV ∧ s3.weights = (W ++ [w]).map .int ∧ s3.depths = (D ++ [d]).map .int := by rw [← hs3]; exact n2
 have ab3 : s3.above = s.above ++ [(nv a.nodes.length, .ref (s2.tail.length + 20))] := by rw [← hs3]; rfl
 have hd3 : ∀ c', dget s3.above (nv c') = if c' = a.nodes.length then some (.ref (s2.tail.length + 20)) else dget s.above (nv c') := by
  intro c'
  rw [ab3, dget_app hdN]
  by_cases h : c' = a.nodes.length
  ·rw [if_pos h, if_pos (by rw [V.beq_iff, h])]
  ·rw [if_neg h, if_neg (by rw [V.beq_iff]; exact fun e => h (nv_inj e).symm)]
 have hl1 : s1.tail.length = s.tail.length + 2 := by rw [t1]; simp
 have hl2 : s2.tail.length = s.tail.length + 3 := by rw [t2, List.length_append, hl1]; rfl
 have hl3 : s3.tail.length = s.tail.length + 4 := by rw [t3, List.length_append, hl2]; rfl
 have ht3old : ∀ j, j < s.tail.length → s3.tail[j]? = s.tail[j]? := by
  intro j h
  rw [t3, List.getElem?_append_left (by rw [hl2]; exact Nat.lt_of_lt_of_le h (Nat.le_add_right _ _)), t2, List.getElem?_append_left (by rw [hl1]; exact Nat.lt_of_lt_of_le h (Nat.le_add_right _ _)), t1, List.append_assoc, List.getElem?_append_left h]
 have hold : ∀ c' j, dget s.above (nv c') = some (.ref (j + 20)) → j < s.tail.length ∧ j ∉ s.lots ∧ ∃ us, a.ab c' = some us := by
  intro c' j h
  cases hab : a.ab c' with
  | none => rw [B.non c' hab] at h; cases h
  | some us =>
   obtain ⟨j', h1, h2, h3⟩ := B.refs c' us hab
   rw [h1] at h
   have hjj := ref_inj h
   subst hjj
   exact ⟨(List.getElem?_eq_some_iff.mp h2).1, h3, us, rfl⟩
 have hinj3 : ∀ c' c'' j, dget s3.above (nv c') = some (.ref (j + 20)) → dget s3.above (nv c'') = some (.ref (j + 20)) → c' = c'' := by
  intro c' c'' j h h'
  rw [hd3] at h h'
  by_cases q1 : c' = a.nodes.length
  ·by_cases q2 : c'' = a.nodes.length
   ·rw [q1, q2]
   ·rw [if_pos q1] at h
    rw [if_neg q2] at h'
    have := (hold c'' j h').1
    exact absurd this (by rw [← ref_inj h, hl2]; exact Nat.not_lt_of_le (Nat.le_add_right _ _))
  ·rw [if_neg q1] at h
   by_cases q2 : c'' = a.nodes.length
   ·rw [if_pos q2] at h'
    have := (hold c' j h).1
    exact absurd this (by rw [← ref_inj h', hl2]; exact Nat.not_lt_of_le (Nat.le_add_right _ _))
   ·rw [if_neg q2] at h'
    exact B.inj c' c'' j h h'
 have hok3 : ∀ c', okKey s3.above (nv c') = true := by
  intro c'
  have := hokA c'
  rw [ab3]
  simp only [okKey, Bool.and_eq_true, List.all_append] at this ⊢
  exact ⟨this.1, this.2, rfl⟩
 have kN : ∀ k ∈ ks, k < a2.nodes.length := fun k hk => by rw [hN2l]; exact Nat.lt_succ_of_lt (hks k hk)
 obtain ⟨cs, hcs, hcn, hcm, hcl⟩ := setSort_ks hkl (fun k hk => Nat.lt_of_lt_of_le (hks k hk) (Nat.le_trans I.five (by decide)))
 walk_at "e"
 walk_at "e"
 refine ex_mono (Q := fun fl ρ μ => fl = Fl.next ∧ Lk ρ [("self", .ref 1), ("n", nv a.nodes.length)] ∧ ∃ T, μ = mem (s3.setTl T) a2 ∧ T.length = s3.tail.length ∧ (∀ j, (∀ c', dget s3.above (nv c') ≠ some (.ref (j + 20))) → T[j]? = s3.tail[j]?) ∧
  (∀ c' j us, dget s3.above (nv c') = some (.ref (j + 20)) → s3.tail[j]? = some (.lst (us.map nv)) → T[j]? = some (.lst ((if c' ∈ ks then us ++ [a.nodes.length] else us).map nv)))) ?_ ?_
 ·walk_at "e"
  refine w_src (w_call rfl (w_sortSet rfl ?_))
  refine w_comp rfl (w_src ?_)
  walk_at "w"
  refine w_sofT ?_
  refine w_map (ks.map nv) (liftN fun k => nv (find a2.par k)) rfl (by rw [List.length_map]; exact Nat.le_trans (by assumption) (Nat.le_add_left _ _)) ?_ (fun ρ => ?_)
  ·intro v hv
   obtain ⟨k, hk, rfl⟩ := List.mem_map.mp hv
   walk_at "w"
   refine w_methI rfl rfl mo_Levels_find ?_
   walk_at "w"
   exact hfind S2 _ _ (kN k hk) ⟨rfl, rfl⟩
  rw [map_liftN]
  have efind : (ks.map fun k => nv (find a2.par k)) = ks.map nv := by
   apply List.map_congr_left
   intro k hk
   rw [hP2, find_range (by have := hks k hk; solve_by_elim (maxDepth := 4) only [*, Nat.add_le_add, Nat.mul_le_mul, Nat.le_refl, Nat.succ_le_succ, Nat.le_trans, Nat.le_of_lt, Nat.pos_of_ne_zero, Nat.sub_le, Nat.le_sub_of_add_le])]
  rw [efind]
  refine ⟨_, rfl, _, hcs, ?_⟩
  refine w_sofL ?_
  refine w_frF (cs.map nv) (fun i ρ μ => Lk ρ [("self", .ref 1), ("n", nv a.nodes.length)] ∧ ∃ T, μ = mem (s3.setTl T) a2 ∧ T.length = s3.tail.length ∧ (∀ j, (∀ c', dget s3.above (nv c') ≠ some (.ref (j + 20))) → T[j]? = s3.tail[j]?) ∧
    (∀ c' j us, dget s3.above (nv c') = some (.ref (j + 20)) → s3.tail[j]? = some (.lst (us.map nv)) → T[j]? = some (.lst ((if c' ∈ cs.take i then us ++ [a.nodes.length] else us).map nv)))) ?hk (fun i ρ μ _ _ => at_vals) ?st ?fin
   ⟨.cons rfl (.cons rfl (.nil _)), s3.tail, rfl, rfl, fun _ _ => rfl, fun c' j us _ h => by simpa using h⟩
  case hk => rfl
  case fin =>
   rintro ρ μ ⟨L, T, hμ, hT1, hT2, hT3⟩
   rw [List.length_map, List.take_length] at hT3
   refine ⟨rfl, L, T, hμ, hT1, hT2, fun c' j us h h' => ?_⟩
   have := hT3 c' j us h h'
   by_cases hc' : c' ∈ ks
   ·rw [if_pos ((hcm c').mpr hc')] at this; rw [if_pos hc']; exact this
   ·rw [if_neg (fun q => hc' ((hcm c').mp q))] at this; rw [if_neg hc']; exact this
  case st =>
   rintro i v ρ μ hv ⟨L, T, rfl, hT1, hT2, hT3⟩
   rw [List.getElem?_map] at hv
   obtain ⟨c', hc', rfl⟩ := Option.map_eq_some_iff.mp hv
   rw [show (Src.vals (cs.map nv)).wrap i (nv c') = nv c' from rfl]
   have hc'k := (hcm c').mp (List.mem_of_getElem? hc')
   have hc'N := hks c' hc'k
   obtain ⟨us, hus⟩ := I.abS c' hc'N
   obtain ⟨j, hj1, hj2, hj3⟩ := B.refs c' us hus
   have hj4 : dget s3.above (nv c') = some (.ref (j + 20)) := by rw [hd3, if_neg (by exact Nat.ne_of_lt (by assumption))]; exact hj1
   have hj5 : s3.tail[j]? = some (.lst (us.map nv)) := by rw [ht3old j (List.getElem?_eq_some_iff.mp hj2).1]; exact hj2
   have hni : c' ∉ cs.take i := by
    intro q
    obtain ⟨k, hk1, hk2⟩ := List.mem_take_iff_getElem.mp q
    have hkc : cs[k]? = some c' := by rw [List.getElem?_eq_getElem (Nat.lt_of_lt_of_le hk1 (Nat.min_le_right _ _)), hk2]
    have := (List.getElem?_inj (List.getElem?_eq_some_iff.mp hkc).1 hcn).mp (hkc.trans hc'.symm)
    exact absurd (Nat.lt_of_lt_of_le hk1 (Nat.min_le_left _ _)) (by rw [this]; exact Nat.lt_irrefl _)
   have hTj := hT3 c' j us hj4 hj5
   rw [if_neg hni] at hTj
   have hub := I.usb c'
   rw [A.us_eq hus] at hub
   walk_at "w"
   refine get_above s3.above rfl (hok3 c') hj4 ?_
   walk_at "w"
   refine w_methL (xs := us.map nv) (by rw [tail_get]; exact hTj) ?_
   walk_at "w"
   refine w_append (xs := us.map nv) (by rw [tail_get]; exact hTj) (by rw [List.length_map]; unfold limit; exact Nat.lt_of_le_of_lt (Nat.le_trans hub (Nat.le_trans (Nat.sub_le _ _) I.five)) (by decide)) ?_
   rw [tail_set]
   walk_at "w"
   rename_i L9
   refine .inl ⟨rfl, L9.sub (Lk.cons rfl (Lk.cons rfl (Lk.nil _))), T.set j (.lst (us.map nv ++ [nv a.nodes.length])), rfl, by rw [List.length_set]; exact hT1, fun j0 h => ?_, fun c2 j2 us2 h h' => ?_⟩
   ·rw [List.getElem?_set_ne (by rintro rfl; exact h c' hj4)]
    exact hT2 j0 h
   ·by_cases hcc : c2 = c'
    ·subst hcc
     rw [hj4] at h
     have hjj := ref_inj h
     subst hjj
     rw [hj5] at h'
     have : us2 = us := by
      injection h' with h'; injection h' with h'
      exact (nvs_inj h').symm
     subst this
     have hin : c2 ∈ cs.take (i + 1) := by rw [List.take_add_one, hc']; simp
     rw [if_pos hin, List.getElem?_set_self (by have := (List.getElem?_eq_some_iff.mp hTj).1; exact this)]
     simp
    ·have hjj : j ≠ j2 := by
      rintro rfl
      exact hcc (hinj3 c2 c' j h hj4)
     rw [List.getElem?_set_ne hjj, hT3 c2 j2 us2 h h']
     have : c2 ∈ cs.take (i + 1) ↔ c2 ∈ cs.take i := by
      rw [List.take_add_one, hc']; simp [hcc]
     by_cases hm : c2 ∈ cs.take i
     ·rw [if_pos hm, if_pos (this.mpr hm)]
     ·rw [if_neg hm, if_neg (fun q => hm (this.mp q))]
 ·rintro _ ρ μ ⟨rfl, L, T, rfl, hT1, hT2, hT3⟩
  have hxN : a2.nodes[a.nodes.length]? = some (chr c, ks) := by rw [hN2]; simp
  have hmade : a.nodes.length = a2.made := by rw [← ha2]; exact I.made.symm
  have hsg : sigOf a2.par (chr c, ks) = (chr c, ks) := by
   unfold sigOf
   have : ks.map (find a2.par) = ks := by
    rw [List.map_congr_left (g := id) fun k hk => by rw [hP2, find_range (by have := hks k hk; solve_by_elim (maxDepth := 4) only [*, Nat.add_le_add, Nat.mul_le_mul, Nat.le_refl, Nat.succ_le_succ, Nat.le_trans, Nat.le_of_lt, Nat.pos_of_ne_zero, Nat.sub_le, Nat.le_sub_of_add_le])]; rfl]
    simp
   show ((chr c, ks.map (find a2.par)) : Nd) = _
   rw [this]
  have hkn2 : a2.known = a.known := by rw [← ha2]; rfl
  have hkn : a2.known.lookup (sigOf a2.par (chr c, ks)) = none := by
   rw [hsg, hkn2]
   cases h : a.known.lookup (chr c, ks) with
   | none => rfl
   | some o => exact absurd (List.mem_of_getElem? (I.knO _ o h)) hnew
  have L2 : Lim a2 := by
   rw [← ha2]
   have h5' := I.five
   exact ⟨by show a.edges.length ≤ _; rw [I.edges]; simp, by show a.forest.length ≤ _; rw [I.forest]; simp, by show a.known.length ≤ _; rw [I.kl]; exact Nat.le_trans (by assumption) (Nat.le_add_left _ _), by show a.ws.length ≤ _; rw [I.ws]; simp, by show a.ch.length ≤ _; rw [I.chl]; exact Nat.le_trans (Nat.mul_le_mul_left 2 h5') (by decide),
    fun c' us h => by have h : a.ab c' = some us := h; have := I.usb c'; rw [A.us_eq h] at this; exact Nat.le_trans this (Nat.le_trans (Nat.sub_le _ _) (Nat.le_trans h5' (by decide))), fun i => by show a.len i ≤ _; rw [I.len]; exact Nat.le_add_left _ _⟩
  have hch3 : (s3.setTl T).changes = a.ch.map chV := by rw [← B.ch]; exact e3.2.2.2.2.2.2.1
  walk_at "w"
  refine w_methI rfl rfl mo_Levels_look_at ?_
  walk_at "w"
  refine hlookB S2 L2 _ hxN hmade hkn (by rw [hch3, List.length_map, I.chl]; exact Nat.le_trans (Nat.mul_le_mul_left 2 I.five) (by decide)) ?_
  intro v2
  walk_at "w"
  rw [hsg]
  have em : mem ((s3.setTl T).setCh ((s3.setTl T).changes ++ [chV (.made a.nodes.length), chV (.known (chr c, ks))])) ((a2.setMade (a.nodes.length + 1)).setK (a2.known ++ [((chr c, ks), a.nodes.length)])) = mem ((s3.setTl T).setCh ((s3.setTl T).changes ++ [chV (.made a.nodes.length), chV (.known (chr c, ks))])) (a.addN (chr c, ks)) := by
   refine mem_congr _ hN2 ?_ (by rw [← ha2]; rfl) (by rw [← ha2]; rfl) (by rw [← ha2]; rfl) (by show a2.known ++ _ = a.known ++ _; rw [hkn2]) rfl
   show a2.par = a.par ++ [a.nodes.length]
   rw [hP2, I.par, List.range_succ]
  rw [em]
  refine q _ _ ?_ e3.1 e3.2.1 e3.2.2.1 e3.2.2.2.1
  have hnl : (a.addN (chr c, ks)).nodes.length = a.nodes.length + 1 := by show (a.nodes ++ [_]).length = _; simp
  have hks' : a.nodes.length ∉ ks := fun h => Nat.lt_irrefl _ (hks _ h)
  have habove : ∀ c' j, dget s3.above (nv c') = some (.ref (j + 20)) → j ∉ s3.lots := by
   intro c' j h
   rw [l3, l2]
   rw [hd3] at h
   by_cases q1 : c' = a.nodes.length
   ·rw [if_pos q1] at h
    have hj := (ref_inj h).symm
    intro q2
    rcases List.mem_append.mp q2 with q2 | q2
    ·exact absurd (B.lotsB j q2) (by rw [hj, hl2]; exact Nat.not_lt_of_le (Nat.le_add_right _ _))
    ·rw [List.mem_singleton, hj, hl2, hl1] at q2; exact Nat.ne_of_gt (Nat.lt_succ_self _) q2
   ·rw [if_neg q1] at h
    have := hold c' j h
    intro q2
    rcases List.mem_append.mp q2 with q2 | q2
    ·exact this.2.1 q2
    ·rw [List.mem_singleton] at q2; exact absurd this.1 (by rw [q2, hl1]; exact Nat.not_lt_of_le (Nat.le_add_right _ _))
  have hTlots : ∀ j ∈ s3.lots, T[j]? = s3.tail[j]? := fun j hj => hT2 j fun c' h => habove c' j h hj
  have hmemb : (mem s3 a2) = mem s3 a2 := rfl
  refine {
   lotsN := by rw [hnl]; show s3.lots.length = _; rw [l3, l2, List.length_append, B.lotsN]; rfl
   lotsD := ?_
   lotsB := ?_
   lens := ?_
   wa := by show s3.wa = none; rw [e3.2.2.2.2.1]; exact B.wa
   o15 := by show s3.o15 = _; rw [e3.2.2.2.2.2.1]; exact B.o15
   keys := ?_
   refs := ?_
   non := ?_
   inj := hinj3
   ch := ?_
   plain := ?_
   marks := by show s3.marks = []; rw [e3.2.2.2.2.2.2.2]; exact B.marks
   num := n3.1
   wt := ⟨W ++ [w], n3.2.1, by rw [hnl, List.length_append, hWl]; rfl⟩
   dp := ⟨D ++ [d], n3.2.2, by rw [hnl, List.length_append, hDl]; rfl⟩ }
  ·show s3.lots.Nodup
   rw [l3, l2, List.nodup_append]
   refine ⟨B.lotsD, by simp, ?_⟩
   rintro x hx y hy rfl
   rw [List.mem_singleton] at hy
   exact absurd (B.lotsB x hx) (by rw [hy, hl1]; exact Nat.not_lt_of_le (Nat.le_add_right _ _))
  ·intro j hj
   have hj : j ∈ s3.lots := hj
   show j < T.length
   rw [hT1, hl3]
   rw [l3, l2] at hj
   rcases List.mem_append.mp hj with h | h
   ·have := B.lotsB j h; exact Nat.lt_of_lt_of_le (by assumption) (Nat.le_add_right _ _)
   ·rw [List.mem_singleton] at h; rw [h, hl1]; exact Nat.add_lt_add_left (by decide) _
  ·intro i j h
   have h : s3.lots[i]? = some j := h
   show ∃ v, T[j]? = some (.lst [v])
   rw [hTlots j (List.mem_of_getElem? h)]
   rw [l3, l2] at h
   by_cases hi : i < s.lots.length
   ·rw [List.getElem?_append_left hi] at h
    obtain ⟨v, hv⟩ := B.lens i j h
    exact ⟨v, by rw [ht3old j (B.lotsB j (List.mem_of_getElem? h))]; exact hv⟩
   ·have hi2 := (List.getElem?_eq_some_iff.mp h).1
    have : i = s.lots.length := Nat.le_antisymm (Nat.le_of_lt_succ (Nat.lt_of_lt_of_eq hi2 (len_snoc _ _))) (Nat.le_of_not_lt hi)
    subst this
    simp at h
    subst h
    refine ⟨nv s1.lots.length, ?_⟩
    rw [t3, List.getElem?_append_left (by rw [hl2, hl1]; exact Nat.lt_succ_self _), t2]
    simp
  ·show s3.above.map (·.1) = _
   rw [ab3, hnl, List.map_append, B.keys, List.range_succ, List.map_append]
   rfl
  ·intro c' us h
   have h : (if c' = a.nodes.length then some [] else if c' ∈ ks then (a.ab c').map (· ++ [a.nodes.length]) else a.ab c') = some us := h
   show ∃ j, dget s3.above (nv c') = some (.ref (j + 20)) ∧ T[j]? = some (.lst (us.map nv)) ∧ j ∉ s3.lots
   by_cases q1 : c' = a.nodes.length
   ·rw [if_pos q1] at h
    cases h
    have hd : dget s3.above (nv c') = some (.ref (s2.tail.length + 20)) := by rw [hd3, if_pos q1]
    refine ⟨s2.tail.length, hd, ?_, habove c' _ hd⟩
    have := hT3 c' s2.tail.length [] hd (by rw [t3]; simp)
    rw [if_neg (by rw [q1]; exact hks')] at this
    exact this
   ·rw [if_neg q1] at h
    have key : ∀ us0, a.ab c' = some us0 → ∃ j, dget s3.above (nv c') = some (.ref (j + 20)) ∧ T[j]? = some (.lst ((if c' ∈ ks then us0 ++ [a.nodes.length] else us0).map nv)) ∧ j ∉ s3.lots := by
     intro us0 h0
     obtain ⟨j, j1, j2, j3⟩ := B.refs c' us0 h0
     have hd : dget s3.above (nv c') = some (.ref (j + 20)) := by rw [hd3, if_neg q1]; exact j1
     exact ⟨j, hd, hT3 c' j us0 hd (by rw [ht3old j (List.getElem?_eq_some_iff.mp j2).1]; exact j2), habove c' j hd⟩
    by_cases q2 : c' ∈ ks
    ·rw [if_pos q2] at h
     obtain ⟨us0, h0, rfl⟩ := Option.map_eq_some_iff.mp h
     have := key us0 h0
     rw [if_pos q2] at this
     exact this
    ·rw [if_neg q2] at h
     have := key us h
     rw [if_neg q2] at this
     exact this
  ·intro c' h
   have h : (if c' = a.nodes.length then some [] else if c' ∈ ks then (a.ab c').map (· ++ [a.nodes.length]) else a.ab c') = none := h
   show dget s3.above (nv c') = none
   by_cases q1 : c' = a.nodes.length
   ·rw [if_pos q1] at h; cases h
   ·rw [if_neg q1] at h
    rw [hd3, if_neg q1]
    refine B.non c' ?_
    by_cases q2 : c' ∈ ks
    ·rw [if_pos q2] at h
     cases hab : a.ab c' with
     | none => rfl
     | some us => rw [hab] at h; cases h
    ·rw [if_neg q2] at h; exact h
  ·show (s3.setTl T).changes ++ [_, _] = (a.ch ++ [_, _]).map chV
   rw [hch3]; simp
  ·intro x hx
   have hx : x ∈ a.ch ++ [Ch.made a.nodes.length, Ch.known (chr c, ks)] := hx
   rcases List.mem_append.mp hx with h | h
   ·exact B.plain x h
   ·simp only [List.mem_cons, List.not_mem_nil, or_false] at h
    rcases h with rfl | rfl <;> rfl
end
set_option tactic.hygienic false
noncomputable def St.setClk (s : St) (o : O) : St := { s with clock := o }
noncomputable def St.app (s : St) (e : List O) : St := { s with tail := s.tail ++ e }
noncomputable def St.setTold (s : St) (o : O) : St := { s with o19 := o }
noncomputable def s0 (clk o18 o19 : O) : St := ⟨clk, none, 0, [], [], [], [], [], .lst [], [], [], o18, o19, [], 0⟩
noncomputable def a0 : A := ⟨[], [], fun _ => 1, [], [], [], [], fun _ => none, [], [], [], 0⟩
theorem mem0 (clk o18 o19 : O) : mem (s0 clk o18 o19) a0 = [clk, .inst "Levels" [("bank", .ref 2), ("unions", .ref 7), ("edges", .ref 11), ("forest", .ref 12), ("known", .ref 13), ("above", .ref 14), ("waiting", .ref 15), ("backs", .int 0), ("changes", .ref 16), ("marks", .ref 17), ("made", .int 0)],
 .inst "Bank" [("nodes", .ref 3), ("numbers", .ref 4), ("weights", .ref 5), ("depths", .ref 6)], .lst [], .dict [], .lst [], .lst [], .inst "Unions" [("above", .ref 8), ("lots", .ref 9), ("merged", .ref 10)], .lst [], .lst [], .lst [], .lst [], .lst [], .dict [], .dict [], .lst [], .lst [], .lst [], o18, o19] := rfl
theorem hbank0 (n : Nat) {clk : O} {fs : List (Str × V)} {Q : V → Mem → Prop} (q : Q .none ([clk, .inst "Levels" fs, .inst "Bank" [("nodes", .ref 3), ("numbers", .ref 4), ("weights", .ref 5), ("depths", .ref 6)], .lst [], .dict [], .lst [], .lst []])) :
  W2 (callD (n + 30) "Bank" (nthM 6 0) [.ref 2] [clk, .inst "Levels" fs, .inst "Bank" []]) Q := by
 conv => arg 1; arg 3; whnf
 walk_at "w"
 refine w_dict0 ?_
 walk_at "w"
 exact q
theorem hunions0 (n : Nat) {o0 o1 o2 o3 o4 o5 o6 : O} {Q : V → Mem → Prop} (q : Q .none ([o0, o1, o2, o3, o4, o5, o6, .inst "Unions" [("above", .ref 8), ("lots", .ref 9), ("merged", .ref 10)], .lst [], .lst [], .lst []])) :
  W2 (callD (n + 30) "Unions" (nthM 8 0) [.ref 7] [o0, o1, o2, o3, o4, o5, o6, .inst "Unions" []]) Q := by
 conv => arg 1; arg 3; whnf
 walk_at "w"
 exact q
theorem hheap0 (n : Nat) {clk : O} {Q : V → Mem → Prop} (q : Q .none [clk, .inst "Levels" [("bank", .ref 2), ("unions", .ref 7), ("edges", .ref 11), ("forest", .ref 12), ("known", .ref 13), ("above", .ref 14), ("waiting", .ref 15), ("backs", .int 0)],
 .inst "Bank" [("nodes", .ref 3), ("numbers", .ref 4), ("weights", .ref 5), ("depths", .ref 6)], .lst [], .dict [], .lst [], .lst [], .inst "Unions" [("above", .ref 8), ("lots", .ref 9), ("merged", .ref 10)], .lst [], .lst [], .lst [], .lst [], .lst [], .dict [], .dict [], .lst []]) :
  W2 (callD (n + 70) "Heap" (nthM 10 0) [.ref 1] [clk, .inst "Levels" []]) Q := by
 conv => arg 1; arg 3; whnf
 walk_at "w"
 refine w_cls rfl rfl rfl mo_Bank_init ?_
 refine hbank0 _ ⟨rfl, ?_⟩
 walk_at "w"
 refine w_cls rfl rfl rfl mo_Unions_init ?_
 refine hunions0 _ ⟨rfl, ?_⟩
 walk_at "w"
 refine w_dict0 ?_
 walk_at "w"
 refine w_dict0 ?_
 walk_at "w"
 exact q
theorem hlev0 (n : Nat) {clk : O} {Q : V → Mem → Prop} (q : ∀ o18 o19, ∃ μ, mem (s0 clk o18 o19) a0 = μ ++ [o18, o19] ∧ Q .none μ) : W2 (callD (n + 100) "Levels" (nthM 12 0) [.ref 1] [clk, .inst "Levels" []]) Q := by
 obtain ⟨μ, h1, h2⟩ := q (.lst []) (.lst [])
 rw [mem0] at h1
 conv => arg 1; arg 3; whnf
 walk_at "w"
 refine w_bsupE rfl (w_sup rfl rfl sup_init ?_)
 walk_at "w"
 refine hheap0 _ ?_
 walk_at "w"
 have e : μ = [clk, .inst "Levels" [("bank", .ref 2), ("unions", .ref 7), ("edges", .ref 11), ("forest", .ref 12), ("known", .ref 13), ("above", .ref 14), ("waiting", .ref 15), ("backs", .int 0), ("changes", .ref 16), ("marks", .ref 17), ("made", .int 0)],
 .inst "Bank" [("nodes", .ref 3), ("numbers", .ref 4), ("weights", .ref 5), ("depths", .ref 6)], .lst [], .dict [], .lst [], .lst [], .inst "Unions" [("above", .ref 8), ("lots", .ref 9), ("merged", .ref 10)], .lst [], .lst [], .lst [], .lst [], .lst [], .dict [], .dict [], .lst [], .lst [], .lst []] := by
  have := congrArg (fun l => l.take 18) h1
  have hl : μ.length = 18 := by have := congrArg List.length h1; simp at this; assumption
  simp only [List.take_append, hl] at this
  simpa [List.take_of_length_le (Nat.le_of_eq hl)] using this.symm
 subst e
 exact h2
set_option tactic.hygienic true
structure NodesOk (l : List Nd) : Prop where
 few : l.length ≤ 5
 three : 3 ≤ l.length
 nd : l.Nodup
 each : ∀ (i : Nat) d, l[i]? = some d → ∃ c ks, d = (chr c, ks) ∧ 97 ≤ c ∧ c ≤ 122 ∧ ks.length ≤ 2 ∧ (∀ k ∈ ks, k < 3 ∧ k < i) ∧ (ks ≠ [] → 3 ≤ i)
noncomputable def consts : List Nd := [(chr 97, []), (chr 98, []), (chr 99, [])]
theorem consts_ok : NodesOk consts := by
 refine ⟨by decide, by decide, by decide, fun i d h => ?_⟩
 match i, h with
 | 0, h => cases h; exact ⟨97, [], rfl, by decide, by decide, by decide, (fun k h => nomatch h), fun h => absurd rfl h⟩
 | 1, h => cases h; exact ⟨98, [], rfl, by decide, by decide, by decide, (fun k h => nomatch h), fun h => absurd rfl h⟩
 | 2, h => cases h; exact ⟨99, [], rfl, by decide, by decide, by decide, (fun k h => nomatch h), fun h => absurd rfl h⟩
 | _ + 3, h => simp [consts] at h
theorem NodesOk.add {l : List Nd} (N : NodesOk l) (h4 : l.length ≤ 4) {c : Nat} {ks : List Nat} (h1 : 97 ≤ c) (h2 : c ≤ 122) (hl : ks.length ≤ 2) (hk : ∀ k ∈ ks, k < 3) (hn : (chr c, ks) ∉ l) : NodesOk (l ++ [(chr c, ks)]) := by
 have h3 := N.three
 refine ⟨by rw [List.length_append]; simp; assumption, by rw [List.length_append]; simp; solve_by_elim (maxDepth := 4) only [*, Nat.le_of_lt, Nat.lt_of_lt_of_le, Nat.lt_of_le_of_lt, Nat.lt_trans, Nat.le_trans, Nat.ne_of_lt, Nat.ne_of_gt], ?_, fun i d h => ?_⟩
 ·rw [List.nodup_append]
  exact ⟨N.nd, by simp, by rintro x hx y hy rfl; rw [List.mem_singleton] at hy; subst hy; exact hn hx⟩
 ·rcases get_app h with h | ⟨rfl, rfl⟩
  ·exact N.each i d h
  ·exact ⟨c, ks, rfl, h1, h2, hl, fun k hk' => by have := hk k hk'; lia, fun _ => h3⟩
theorem ndV_pure {c : Nat} (h2 : c ≤ 122) (ks : List Nat) : (ndV (chr c, ks)).pureN 5 = true := Bool.and_eq_true_iff.mpr ⟨chr_ok h2, List.all_eq_true.mpr fun _ hv => (List.mem_map.mp hv).elim fun _ h => h.2 ▸ rfl⟩
theorem fg_str : Str.ofString "fg" = ⟨#[102, 103]⟩ := by decide +kernel
theorem f_str : Str.ofString "f" = chr 102 := by decide +kernel
theorem abc_str : Str.ofString "a" = chr 97 ∧ Str.ofString "b" = chr 98 ∧ Str.ofString "c" = chr 99 := by refine ⟨?_, ?_, ?_⟩ <;> decide +kernel
theorem fg_get {r : Nat} (h : r < 2) : (⟨#[(Str.ofString "fg").cps.getD (r : Int).toNat 0]⟩ : Str) = chr (102 + r) := by
 rw [fg_str]
 have : r = 0 ∨ r = 1 := by lia
 rcases this with rfl | rfl <;> rfl
theorem nds_pure {l : List Nd} (N : NodesOk l) : (l.map ndV).all (V.pureN 5) = true := List.all_eq_true.mpr fun v hv => by
 obtain ⟨d, hd, rfl⟩ := List.mem_map.mp hv
 obtain ⟨i, hi⟩ := List.mem_iff_getElem?.mp hd
 obtain ⟨c, ks, rfl, _, h2, _⟩ := N.each i d hi
 exact ndV_pure h2 ks
theorem eqv_nvs (a : List Nat) : ∀ b : List Nat, PyData.eqvAll (V.pys (a.map nv)) (V.pys (b.map nv)) = true ↔ a = b := by
 induction a with
 | nil => intro b; cases b with
  | nil => exact ⟨fun _ => rfl, fun _ => rfl⟩
  | cons => exact ⟨ff, nofun⟩
 | cons x a ih => intro b; cases b with
  | nil => exact ⟨ff, nofun⟩
  | cons y b => exact Bool.and_eq_true_iff.trans ⟨fun h => congr (congrArg List.cons (Int.ofNat_inj.mp (beq_iff_eq.mp h.1))) ((ih b).mp h.2), fun e => ⟨beq_iff_eq.mpr (congrArg (fun n : Nat => (n : Int)) (List.cons.inj e).1), (ih b).mpr (List.cons.inj e).2⟩⟩
theorem eqv_nd (d e : Nd) : PyData.eqv (ndV d).py (ndV e).py = true ↔ d = e :=
 Bool.and_eq_true_iff.trans ⟨fun h => Prod.ext (beq_iff_eq.mp h.1) ((eqv_nvs _ _).mp h.2), fun h => h ▸ ⟨beq_iff_eq.mpr rfl, (eqv_nvs _ _).mpr rfl⟩⟩
theorem nds_any (l : List Nd) (d : Nd) : ((l.map ndV).any fun y => PyData.eqv y.py (ndV d).py) = decide (d ∈ l) := by
 rw [List.any_map, Bool.eq_iff_iff, List.any_eq_true, decide_eq_true_eq]
 exact ⟨fun ⟨q, hq, h⟩ => (eqv_nd q d).mp h ▸ hq, fun h => ⟨d, h, (eqv_nd d d).mpr rfl⟩⟩
section
variable {s : St} {a : A}
theorem BRep.push (B : BRep s a) (o : O) : BRep (s.push o) a := by
 have hg : ∀ j, j < s.tail.length → (s.push o).tail[j]? = s.tail[j]? := fun j h => List.getElem?_append_left h
 refine { B with lotsB := fun j h => ?_, lens := fun i j h => ?_, refs := fun c us h => ?_ }
 ·have := B.lotsB j h; show j < (s.tail ++ [o]).length; simp; solve_by_elim (maxDepth := 4) only [*, Nat.add_le_add, Nat.mul_le_mul, Nat.le_refl, Nat.succ_le_succ, Nat.le_trans, Nat.le_of_lt, Nat.pos_of_ne_zero, Nat.sub_le, Nat.le_sub_of_add_le]
 ·obtain ⟨v, hv⟩ := B.lens i j h
  exact ⟨v, by rw [hg j (B.lotsB j (List.mem_of_getElem? h))]; exact hv⟩
 ·obtain ⟨j, h1, h2, h3⟩ := B.refs c us h
  exact ⟨j, h1, by rw [hg j (List.getElem?_eq_some_iff.mp h2).1]; exact h2, h3⟩
theorem BRep.clk (B : BRep s a) (o : O) : BRep (s.setClk o) a := { B with }
theorem mem_clk (s : St) (a : A) (o : O) : (mem s a).set 0 o = mem (s.setClk o) a := rfl
end
theorem brep0 (clk o18 o19 : O) : BRep (s0 clk o18 o19) a0 where
 lotsN := rfl
 lotsD := .nil
 lotsB := fun j h => nomatch h
 lens := fun i j h => by cases h
 wa := rfl
 o15 := rfl
 keys := rfl
 refs := fun c us h => by cases h
 non := fun c h => rfl
 inj := fun c c' j h => by cases h
 ch := rfl
 plain := fun c h => nomatch h
 marks := rfl
 num := rfl
 wt := ⟨[], rfl, rfl⟩
 dp := ⟨[], rfl, rfl⟩
theorem binv0 : BInv a0 where
 par := rfl
 len := fun _ => rfl
 mrg := rfl
 edges := rfl
 forest := rfl
 ws := rfl
 mks := rfl
 made := rfl
 knS := fun n d h => by cases h
 knO := fun sg o h => by cases h
 kl := rfl
 chl := rfl
 abS := fun c h => by cases h
 abN := fun c h => rfl
 use := fun n d k h => by cases h
 usN := fun c n h => by cases h
 usb := fun c => Nat.zero_le _
 kids := fun d h => nomatch h
 five := by decide
 nd := .nil
theorem BRep.bd {s : St} {a : A} (B : BRep s a) (b : Nat) : BRep (s.setBd b) a := { B with }
theorem Rep.clk {s : St} {a : A} (R : Rep s a) (o : O) : Rep (s.setClk o) a := R.free rfl rfl rfl rfl rfl rfl rfl rfl rfl rfl rfl rfl rfl rfl rfl
theorem Rep.tld {s : St} {a : A} (R : Rep s a) (o : O) : Rep (s.setTold o) a := R.free rfl rfl rfl rfl rfl rfl rfl rfl rfl rfl rfl rfl rfl rfl rfl
theorem app_told {s : St} {a : A} {Q : V → Mem → Prop} {v : V} (T : List Pr) (h : s.o19 = .lst (T.map prV)) (p : Pr) (hv : v = prV p) (hT : T.length ≤ 5) (q : Q .none (mem (s.setTold (.lst ((T ++ [p]).map prV))) a)) : W2 (lstC 19 "append" [v] (mem s a)) Q := by
 refine w_append (xs := T.map prV) (by show some s.o19 = _; rw [h]) (by rw [List.length_map]; unfold limit; exact Nat.lt_of_le_of_lt (by assumption) (by decide)) ?_
 have e : (mem s a).set 19 (.lst (T.map prV ++ [v])) = mem (s.setTold (.lst ((T ++ [p]).map prV))) a := by
  rw [hv, List.map_append]; rfl
 rw [e]; exact q
theorem Rep.app {s : St} {a : A} (R : Rep s a) (e : List O) : Rep (s.app e) a := by
 induction e using snocInd with
 | h0 => exact R.free rfl rfl (by simp [St.app]) rfl rfl rfl rfl rfl rfl rfl rfl rfl rfl rfl rfl
 | h1 e o ih => exact (ih.push o).free rfl rfl (by simp [St.app, St.push]) rfl rfl rfl rfl rfl rfl rfl rfl rfl rfl rfl rfl
theorem Fr.app (s : St) (e : List O) : Fr s (s.app e) := ⟨rfl, rfl, by simp [St.app], .inl rfl, fun j h _ _ => List.getElem?_append_left h, rfl, rfl, rfl⟩
theorem Rep.setFree {s : St} {a : A} (R : Rep s a) (hm : a.mks = []) {j : Nat} (hb : s.bound ≤ j) (hw : s.wa ≠ some j) (o : O) : Rep (s.setT j o) a := by
 have hg : ∀ i, i ≠ j → (s.setT j o).tail[i]? = s.tail[i]? := fun i h => List.getElem?_set_ne (fun e => h e.symm)
 have hAL : ∀ {w us}, AL s w us → AL (s.setT j o) w us := by
  rintro w us (rfl | ⟨i, h1, h2, rfl, h3⟩)
  ·exact .inl rfl
  ·exact .inr ⟨i, h1, h2, rfl, by rw [hg i (by lia)]; exact h3⟩
 refine ⟨R.lotsN, R.lotsD, R.lotsB, fun i i' h => ?_, by show s.bound ≤ (s.tail.set j o).length; rw [List.length_set]; exact R.bnd, ?_, R.abK, R.abD, R.abN, fun c us h => ?_, R.abL, R.ch.imp fun v c x => ?_, ?_⟩
 ·obtain ⟨xs, h1, h2⟩ := R.lens i i' h
  exact ⟨xs, by rw [hg i' (by have := R.lotsB i' (List.mem_of_getElem? h); lia)]; exact h1, h2⟩
 ·exact R.wa.of rfl rfl (fun _ => rfl) fun i e _ => hg i (by rintro rfl; exact hw e)
 ·obtain ⟨w, h1, h2⟩ := R.abS c us h
  exact ⟨w, h1, hAL h2⟩
 ·cases x with
  | made n => exact .made n
  | known d => exact .known d
  | edge k m g h => exact .edge k m g (hAL h)
 ·have := R.mrk
  rw [hm] at this
  rw [hm]
  show All2 _ s.marks []
  cases hs : s.marks with
  | nil => exact .nil
  | cons x r => rw [hs] at this; cases this
theorem htrial {s : St} {b : A} {Q : V → Mem → Prop} {T : List Pr} (B : Rest T b) (R : Rep s b) {j : Nat} (Z : Fz s j (.inst "Trial" [])) (hj : s.bound ≤ j) (n : Nat) (q : ∀ s', Rep s' b → Fz s' j triO → s'.o19 = s.o19 → Q .none (mem s' b)) :
  W2 (callD (n + 350) "Trial" (nthM 13 0) [.ref (j + 20), .ref 1] (mem s b)) Q := by
 have R1 : Rep (s.setT j triO) b := R.setFree B.mks hj Z.2.2 _
 have Z1 : Fz (s.setT j triO) j triO := ⟨List.getElem?_set_self (List.getElem?_eq_some_iff.mp Z.1).1, Z.2⟩
 have o1 : (s.setT j triO).o19 = s.o19 := rfl
 conv => arg 1; arg 3; whnf
 walk_at "w"
 refine w_sattrV (by rw [tail_get]; exact Z.1) rfl ?_
 rw [tail_set]
 rw [show O.inst "Trial" (put [] "heap" (.ref 1)) = triO from rfl]
 generalize s.setT j triO = s1 at *
 walk_at "w"
 refine w_attrV (fs := [("heap", .ref 1)]) (C := "Trial") (w := .ref 1) (by rw [tail_get]; exact Z1.1) rfl rfl ?_
 refine w_methI rfl rfl mo_Levels_settle ?_
 walk_at "w"
 refine hsettle (fun b' => b' = b) (fun _ => 0) ?_ ?_ R1 rfl (by exact Nat.zero_le _) _ ?_
 ·rintro _ rfl
  exact ⟨B.inv.toOk, by have := B.inv.pot; lia, B.inv.wsN⟩
 ·rintro _ x d rfl hx
  rw [B.ws] at hx; cases hx
 ·rintro v s2 _ F2 R2 rfl _
  walk_at "w"
  exact q s2 R2 (Z1.fr F2) (by rw [F2.o19, o1])
theorem veq_self {v : V} {μ : Mem} (h : (flat2 v μ).pureN 5 = true) : veq v v μ true := ⟨h, h, (SeqAt.eqv_refl _ (V.lay _ 5 h)).symm⟩
theorem veq_res (v : V) (h : v = .none ∨ ∃ l : List Pr, v = .lst (l.map prV)) (μ : Mem) : veq v v μ true := by
 rcases h with rfl | ⟨l, rfl⟩
 ·exact veq_self rfl
 ·exact veq_self (prs_pure 2 l)
theorem veq_photo {C : List V} {es : List V} (hC : ∃ l : List Nat, C = l.map nv) (he : ∀ e ∈ es, e.pureN 3 = true) {μ : Mem} {i j : Nat} (hi : μ[i]? = some (.lst es)) (hj : μ[j]? = some (.lst es)) (x y : Nat) : veq (.tup [.lst C, .ref i, nv x, nv y]) (.tup [.lst C, .ref j, nv x, nv y]) μ true := by
 have e1 : ∀ k, μ[k]? = some (.lst es) → flat2 (.tup [.lst C, .ref k, nv x, nv y]) μ = .tup [.lst C, .lst es, nv x, nv y] := fun k hk => congrArg (fun z => V.tup [.lst C, z, nv x, nv y]) (flat_ref hk)
 obtain ⟨l, rfl⟩ := hC
 have h3 : (V.tup [.lst (l.map nv), .lst es, nv x, nv y]).pureN 5 = true := Bool.and_eq_true_iff.mpr ⟨List.all_eq_true.mpr fun v hv => (List.mem_map.mp hv).elim fun _ h => h.2 ▸ rfl, Bool.and_eq_true_iff.mpr ⟨List.all_eq_true.mpr he, rfl⟩⟩
 exact ⟨(congrArg _ (e1 i hi)).trans h3, (congrArg _ (e1 j hj)).trans h3, (SeqAt.eqv_refl _ (V.lay _ 5 h3)).symm.trans (congr (congrArg (fun v => PyData.eqv (V.py v)) (e1 i hi).symm) (congrArg V.py (e1 j hj).symm))⟩
inductive Iv1 (row : List Int) (i : Nat) (ρ : Loc) (μ : Mem) : Prop
 | mk (s : St) (t : Nat) (l : List Nd) (nvv : V) (_ : μ = mem s a0) (_ : BRep s a0) (_ : s.clock = clkO row t) (_ : t ≤ 1 + 4 * i) (_ : s.o19 = .lst []) (_ : Lk ρ [("clock", .ref 0), ("heap", .ref 1), ("told", .ref 19), ("nodes", nvv)]) (_ : listOf nvv μ = some (l.map ndV)) (_ : (0 < i → nvv = .lst (l.map ndV))) (_ : (i = 0 → l = consts)) (_ : NodesOk l) (_ : l.length ≤ 3 + i) : Iv1 row i ρ μ
inductive Iv2 (row : List Int) (t : Nat) (nvv : V) (l : List Nd) (i : Nat) (acc : List V) (ρ : Loc) (μ : Mem) : Prop
 | mk (s3 : St) (ks : List Nat) (t3 : Nat) (_ : μ = mem s3 a0) (_ : BRep s3 a0) (_ : s3.clock = clkO row t3) (_ : t3 ≤ t + 1 + i) (_ : s3.o19 = .lst []) (_ : listOf nvv μ = some (l.map ndV)) (_ : acc = ks.map nv) (_ : ks.length = i) (_ : (∀ k ∈ ks, k < 3)) (_ : Lk ρ [("clock", .ref 0)]) : Iv2 row t nvv l i acc ρ μ
inductive Iv3 (row : List Int) (t : Nat) (l : List Nd) (i : Nat) (ρ : Loc) (μ : Mem) : Prop
 | mk (s : St) (a : A) (_ : μ = mem s a) (_ : BRep s a) (_ : BInv a) (_ : a.nodes = l.take i) (_ : s.clock = clkO row t) (_ : s.o19 = .lst []) (_ : Lk ρ [("clock", .ref 0), ("heap", .ref 1), ("told", .ref 19), ("nodes", .lst (l.map ndV))]) : Iv3 row t l i ρ μ
inductive Iv4 (row : List Int) (a : A) (l : List Nd) (ρ : Loc) (μ : Mem) : Prop
 | mk (s' : St) (a' : A) (T : List Pr) (t' : Nat) (_ : μ = mem s' a') (_ : Rep s' a') (_ : Lev a T T a') (_ : pot a' ≤ 32) (_ : total a' ≤ 200) (_ : s'.clock = clkO row t') (_ : t' ≤ 20) (_ : s'.o19 = .lst (T.map prV)) (_ : T.length ≤ 1) (_ : Lk ρ [("clock", .ref 0), ("heap", .ref 1), ("told", .ref 19), ("nodes", .lst (l.map ndV))]) : Iv4 row a l ρ μ
inductive Iv5 (b : A) (T : List Pr) (l : List Nd) (ps : List Pr) (ρ : Loc) (μ : Mem) : Prop
 | mk (s' : St) (x : Nat) (y : Nat) (_ : μ = mem s' b) (_ : Rep s' b) (_ : s'.o19 = .lst (T.map prV)) (_ : x < l.length) (_ : y < l.length) (_ : Lk ρ [("heap", .ref 1), ("told", .ref 19), ("nodes", .lst (l.map ndV)), ("some", .lst (ps.map prV)), ("a", nv x), ("b", nv y)]) : Iv5 b T l ps ρ μ
inductive Iv6 (b : A) (tr ej : Nat) (ps : List Pr) (x y : Nat) (C : List V) (dv : V) (i : Nat) (ρ : Loc) (μ : Mem) : Prop
 | mk (s' : St) (_ : μ = mem s' b) (_ : Rep s' b) (_ : Fz s' tr triO) (_ : Fz s' ej (.lst b.edges)) (_ : Lk ρ [("heap", .ref 1), ("some", .lst (ps.map prV)), ("a", nv x), ("b", nv y), ("trial", .ref (tr + 20)), ("photo", .tup [.lst C, .ref (ej + 20), nv b.nodes.length, nv b.mks.length]), ("due", dv)]) : Iv6 b tr ej ps x y C dv i ρ μ
set_option maxHeartbeats 1000000 in
theorem law_walk {script : List Int} (hl : script.length ≤ 63) (n : Nat) : W2 (callD (n + 600) Str.empty (nthM 19 0) [.lst (script.map .int)] []) fun v _ => v = .bool true := by
 conv => arg 1; arg 3; whnf
 walk_at "w"
 refine w_dict2 ?_
 refine w_comp rfl (w_src ?_)
 walk_at "w"
 refine w_evo1 ?_
 walk_at "w"
 refine ⟨40, rfl, ?_⟩
 refine w_slL (vs := script.map .int) rfl (by rw [List.length_map]; unfold limit; exact Nat.lt_of_le_of_lt (by assumption) (by decide)) (cutL_to (by decide)) ?_
 refine w_sofL ?_
 rw [← List.map_take]
 have hrow : ((script.take (Int.toNat 40)).map V.int).length ≤ 40 := by rw [List.length_map, List.length_take]; exact Nat.min_le_left _ _
 refine w_map ((script.take (Int.toNat 40)).map V.int) (fun v => match v with | .int i => .int (i.fmod 1000003) | v => v) rfl (by exact Nat.le_trans (by assumption) (Nat.le_add_left _ _)) ?_ (fun ρ => ?_)
 ·intro v hv
  obtain ⟨i, hi, rfl⟩ := List.mem_map.mp hv
  walk_at "w"
  refine w_bltn rfl (w_intI ?_)
  walk_at "w"
  refine w_modI (by decide) ?_
  exact ⟨rfl, rfl⟩
 rw [List.map_map]
 obtain ⟨row, hr1, hr2⟩ : ∃ row : List Int, List.map ((fun v => match v with | .int i => V.int (i.fmod 1000003) | v => v) ∘ V.int) (script.take (Int.toNat 40)) = row.map .int ∧ row.length ≤ 40 := by
  refine ⟨(script.take (Int.toNat 40)).map fun i => i.fmod 1000003, ?_, by rw [List.length_map]; rw [List.length_map] at hrow; exact hrow⟩
  rw [List.map_map]; rfl
 rw [hr1]
 clear hr1 hrow
 walk_at "w"
 refine ⟨rfl, ?_⟩
 have hclk : ([] ++ [O.dict []]).set (List.length ([] : Mem)) (.dict (dput (dput [] (.str "row") (.lst (row.map .int))) (.str "at") (.int 0))) = [clkO row 0] := rfl
 rw [hclk]
 walk_at "w"
 refine w_assT rfl rfl ?_
 walk_at "w"
 refine w_cls rfl rfl rfl mo_Levels_init ?_
 refine hlev0 _ fun o18 o19 => ⟨(mem (s0 (clkO row 0) o18 o19) a0).take 18, rfl, rfl, ?_⟩
 walk_at "w"
 simp only [if_true, Bool.false_eq_true, if_false, List.reverse_cons, List.reverse_nil, List.nil_append, List.cons_append]
 walk_at "w"
 have hm0 : (mem (s0 (clkO row 0) o18 o19) a0).take 18 ++ [.lst [.tup [.str "a"], .tup [.str "b"], .tup [.str "c"]]] ++ [.lst []] = mem (s0 (clkO row 0) (.lst (consts.map ndV)) (.lst [])) a0 := by
  obtain ⟨e1, e2, e3⟩ := abc_str
  rw [e1, e2, e3]
  rfl
 rw [hm0]
 have BR0 := brep0 (clkO row 0) (.lst (consts.map ndV)) (.lst [])
 refine w_src ?_
 walk_at "w"
 refine w_fn rfl fn_tick ?_
 refine htick _ (many := 2) (by decide) rfl (by exact Nat.zero_le _) (by exact Nat.le_trans (by assumption) (Nat.le_add_left _ _)) ?_
 intro r hr
 rw [mem_clk]
 have BR1 := BR0.clk (clkO row (0 + 1))
 have c1 : ((s0 (clkO row 0) (.lst (consts.map ndV)) (.lst [])).setClk (clkO row (0 + 1))).clock = clkO row 1 := rfl
 have o1 : ((s0 (clkO row 0) (.lst (consts.map ndV)) (.lst [])).setClk (clkO row (0 + 1))).o18 = .lst (consts.map ndV) := rfl
 have o2 : ((s0 (clkO row 0) (.lst (consts.map ndV)) (.lst [])).setClk (clkO row (0 + 1))).o19 = .lst [] := rfl
 generalize (s0 (clkO row 0) (.lst (consts.map ndV)) (.lst [])).setClk (clkO row (0 + 1)) = s1 at *
 walk_at "w"
 refine w_bltn rfl (w_rng1 ?_)
 have er : (1 : Int) + (r : Int) = ((1 + r : Nat) : Int) := by lia
 rw [er]
 refine w_sofG (okRng_nat (by lia)) ?_
 rw [rng_nat]
 refine w_frF ((List.range (1 + r)).map nv) (Iv1 row) ?hk
  (fun i ρ μ _ _ => at_vals) ?st ?fin ⟨s1, 1, consts, .ref 18, rfl, BR1, c1, by exact Nat.le_refl _, o2, .cons rfl (.cons rfl (.cons rfl (.cons rfl (.nil _)))), listOf_ref (by show some s1.o18 = _; rw [o1]), fun h => by exact absurd (by assumption) (Nat.not_lt_zero _), fun _ => rfl, consts_ok, by decide⟩
 case hk => rfl
 case st =>
  rintro i v ρ μ hv ⟨s, t, l, nvv, rfl, BR, hclk, ht, ho, L, hls, hpos, hzero, NO, hl3⟩
  have hi : i < 1 + r := by have := (List.getElem?_eq_some_iff.mp hv).1; rw [List.length_map, List.length_range] at this; exact this
  have g0 : (mem s a0)[0]? = some (clkO row t) := by show some s.clock = _; rw [hclk]
  walk_at "w"
  refine w_fn rfl fn_tick ?_
  refine htick _ (many := 2) (by decide) g0 (by lia) (by exact Nat.le_trans (by assumption) (Nat.le_add_left _ _)) ?_
  intro x hx
  have hls1 := listOf_tick g0 hls (t + 1)
  rw [mem_clk] at hls1 ⊢
  have BR2 := BR.clk (clkO row (t + 1))
  have hclk2 : (s.setClk (clkO row (t + 1))).clock = clkO row (t + 1) := rfl
  have ho2 : (s.setClk (clkO row (t + 1))).o19 = .lst [] := ho
  generalize s.setClk (clkO row (t + 1)) = s2 at *
  walk_at "w"
  refine w_idxS ⟨by exact Int.natCast_nonneg _, by rw [fg_str]; show (x : Int) < 2; exact Int.ofNat_lt.mpr (by assumption), by rw [fg_str]; show 2 < limit; decide⟩ ?_
  rw [fg_get hx]
  walk_at "e"
  rename_i L1
  clear L
  walk_at "w"
  have Lc := L1.capt (sc := ⟨.function, [(".0", .local), ("turn", .local), ("_law_tick", .globalImplicit), ("clock", .free)], false, false, []⟩) rfl [("clock", .ref 0)] rfl (Lk.cons rfl (Lk.nil _))
  refine w_comp rfl (w_src ?_)
  refine ev_mono (Q := fun w μ' => μ' = mem s2 a0 ∧ ∃ m : Nat, 0 < m ∧ m ≤ 2 ∧ w = V.rng 0 (m : Int)) ?_ ?_
  ·walk_at "w"
   refine w_eqS (Bool.and_eq_true_iff.mpr ⟨chr_ok (by lia), by decide +kernel⟩) ?_
   rw [f_str]
   by_cases h : chr (102 + x) = chr 102
   ·refine iD h ?_
    walk_at "w"
    exact w_bltn rfl (w_rng1 ⟨rfl, 1, by decide, by decide, rfl⟩)
   ·refine iN h ?_
    walk_at "w"
    exact w_bltn rfl (w_rng1 ⟨rfl, 2, by decide, by decide, rfl⟩)
  rintro w _ ⟨rfl, m, hm1, hm2, rfl⟩
  refine w_sofG (okRng_nat (by exact Nat.le_trans (by assumption) (Nat.le_add_left _ _))) ?_
  rw [rng_nat]
  refine w_cmpF ((List.range m).map nv) (Iv2 row t nvv l) ?hk2
   (fun i acc ρ μ _ _ => at_vals) ?st2 ?fin2 ⟨s2, [], t + 1, rfl, BR2, hclk2, by exact Nat.le_refl _, ho2, hls1, rfl, rfl, (fun k h => nomatch h), Lc⟩
  case hk2 => rfl
  case st2 =>
   rintro i' v' acc ρ' μ' hv' ⟨s3, ks, t3, rfl, BR3, hclk3, ht3, ho3, hls3, rfl, hkl, hk3, L3⟩
   have hi' : i' < m := by have := (List.getElem?_eq_some_iff.mp hv').1; rw [List.length_map, List.length_range] at this; exact this
   have g3 : (mem s3 a0)[0]? = some (clkO row t3) := by show some s3.clock = _; rw [hclk3]
   clear L1 Lc
   walk_at "w"
   refine iP rfl ?_
   walk_at "w"
   refine w_fn rfl fn_tick ?_
   refine htick _ (many := 3) (by decide) g3 (by lia) (by exact Nat.le_trans (by assumption) (Nat.le_add_left _ _)) ?_
   intro y hy
   have hls4 := listOf_tick g3 hls3 (t3 + 1)
   rw [mem_clk] at hls4 ⊢
   rename_i L4
   refine ⟨by rw [List.length_map]; unfold limit; lia, s3.setClk (clkO row (t3 + 1)), ks ++ [y], t3 + 1, rfl, BR3.clk _, rfl, by exact Nat.succ_le_succ (by assumption), ho3, hls4, by simp, by rw [List.length_append, hkl]; rfl, ?_, L4.sub (Lk.cons rfl (Lk.nil _))⟩
   intro k hk
   rcases List.mem_append.mp hk with h | h
   ·exact hk3 k h
   ·rw [List.mem_singleton] at h; lia
  case fin2 =>
   rintro acc ρ' μ' ⟨s3, ks, t3, rfl, BR3, hclk3, ht3, ho3, hls3, rfl, hkl, hk3, L3⟩
   rw [List.length_map, List.length_range] at hkl ht3
   clear L3 Lc
   walk_at "w"
   refine w_bltn rfl (w_tupL (by rw [List.length_map]; unfold limit; lia) ?_)
   refine w_addT (by rw [List.length_map]; simp; unfold limit; lia) ?_
   have hnode : V.tup ([.str (chr (102 + x))] ++ ks.map nv) = ndV (chr (102 + x), ks) := rfl
   rw [hnode]
   walk_at "w"
   refine w_in (isIn_L hls3 (Bool.and_eq_true_iff.mpr ⟨ndV_pure (by lia) ks, nds_pure NO⟩)) ?_
   rw [nds_any]
   by_cases hmem : (chr (102 + x), ks) ∈ l
   ·refine iD hmem ?_
    have hi0 : 0 < i := by
     by_cases h : i = 0
     ·have := hzero h
      rw [this] at hmem
      exfalso
      simp only [consts, List.mem_cons, Prod.mk.injEq, List.not_mem_nil, or_false] at hmem
      rcases hmem with ⟨h, _⟩ | ⟨h, _⟩ | ⟨h, _⟩ <;> (simp [chr] at h; lia)
     ·exact Nat.lt_of_sub_ne_zero (by assumption)
    walk_at "w"
    rename_i L5
    exact .inl ⟨rfl, s3, t3, l, nvv, rfl, BR3, hclk3, by lia, ho3, L5.sub (Lk.cons rfl (Lk.cons rfl (Lk.cons rfl (Lk.cons rfl (Lk.nil _))))), hls3, fun _ => hpos hi0, fun h => by lia, NO, by solve_by_elim (maxDepth := 3) only [*, Nat.lt_of_lt_of_le, Nat.lt_of_le_of_lt, Nat.lt_trans, Nat.le_trans]⟩
   ·refine iN hmem ?_
    walk_at "w"
    refine w_addL (x := l.map ndV) (y := [ndV (chr (102 + x), ks)]) (listOf_push hls3 _) (listOf_ref (get_new _ _)) (by rw [List.length_map]; simp; unfold limit; lia) ?_
    rw [mem_push]
    have el : l.map ndV ++ [ndV (chr (102 + x), ks)] = (l ++ [(chr (102 + x), ks)]).map ndV := by simp
    rw [el]
    walk_at "w"
    rename_i L5
    exact .inl ⟨rfl, s3.push _, t3, l ++ [(chr (102 + x), ks)], .lst ((l ++ [(chr (102 + x), ks)]).map ndV), rfl, BR3.push _, hclk3, by lia, ho3, L5.sub (Lk.cons rfl (Lk.cons rfl (Lk.cons rfl (Lk.cons rfl (Lk.nil _))))), rfl, fun _ => rfl, fun h => by lia, NO.add (by lia) (by lia) (by lia) (by lia) hk3 hmem, by rw [List.length_append]; simp; exact Nat.succ_le_succ (by assumption)⟩
 case fin =>
  rintro ρ μ ⟨s, t, l, nvv, rfl, BR, hclk, ht, ho, L, hls, hpos, _, NO, hl3⟩
  rw [List.length_map, List.length_range] at ht hpos hl3
  have := hpos (by lia)
  subst this
  clear hls
  walk_at "w"
  refine w_src ?_
  walk_at "w"
  refine w_sofL ?_
  refine w_frF (l.map ndV) (Iv3 row t l) ?hkC
   (fun i ρ μ _ _ => at_vals) ?stC ?finC ⟨s, a0, rfl, BR, binv0, rfl, hclk, ho, L⟩
  case hkC => rfl
  case stC =>
   rintro i v ρ μ hv ⟨s, a, rfl, BR, BI, hnod, hclk, ho, L⟩
   rw [List.getElem?_map] at hv
   obtain ⟨d, hd, rfl⟩ := Option.map_eq_some_iff.mp hv
   have hi : i < l.length := (List.getElem?_eq_some_iff.mp hd).1
   have hfew := NO.few
   obtain ⟨c, ks, rfl, h1, h2, hkl, hk, h3⟩ := NO.each i d hd
   have hnl : a.nodes.length = i := by rw [hnod, List.length_take]; exact Nat.min_eq_left (Nat.le_of_lt hi)
   rw [show (Src.vals (l.map ndV)).wrap i (ndV (chr c, ks)) = ndV (chr c, ks) from rfl]
   walk_at "w"
   refine w_methI rfl rfl mo_Levels_add ?_
   walk_at "w"
   refine w_idxT rfl ?_
   walk_at "w"
   refine w_evo1 ?_
   walk_at "w"
   refine ⟨1, rfl, ?_⟩
   walk_at "w"
   refine w_slT (by simp only [List.length_cons, List.length_map]; unfold limit; exact Nat.lt_of_le_of_lt (Nat.succ_le_succ hkl) (by decide)) ⟨Int.le_refl _, (Int.ofNat_le (m := 1)).mpr (Nat.succ_le_succ (Nat.zero_le _))⟩ ?_
   rw [show (V.str (chr c) :: ks.map nv).drop (Int.toNat 1) = ks.map nv from rfl]
   walk_at "w"
   rename_i L1
   have hkA : ∀ k ∈ ks, k < a.nodes.length := fun k hk' => by rw [hnl]; exact (hk k hk').2
   have h3A : ks ≠ [] → 3 ≤ a.nodes.length := fun h => by rw [hnl]; exact h3 h
   have h5A : a.nodes.length + 1 ≤ 5 := by rw [hnl]; exact Nat.le_trans hi hfew
   refine hadd BR BI _ h1 h2 hkA hkl h3A h5A ?_ ?_
   ·intro hm
    rw [hnod] at hm
    obtain ⟨k, hk1, hk2⟩ := List.mem_take_iff_getElem.mp hm
    have hkc : l[k]? = some (chr c, ks) := by rw [List.getElem?_eq_getElem (Nat.lt_of_lt_of_le hk1 (Nat.min_le_right _ _)), hk2]
    have := (List.getElem?_inj (List.getElem?_eq_some_iff.mp hkc).1 NO.nd).mp (hkc.trans hd.symm)
    exact absurd (Nat.lt_of_lt_of_le hk1 (Nat.min_le_left _ _)) (by rw [this]; exact Nat.lt_irrefl _)
   ·intro v' s' BR' e1 e2 e3 e4
    walk_at "w"
    refine .inl ⟨rfl, s', _, rfl, BR', BI.add ?_ ⟨hkl, hkA⟩ h3A h5A, ?_, by rw [e1]; exact hclk, by rw [e3]; exact ho, L1.sub (Lk.cons rfl (Lk.cons rfl (Lk.cons rfl (Lk.cons rfl (Lk.nil _)))))⟩
    ·intro hm
     rw [hnod] at hm
     obtain ⟨k, hk1, hk2⟩ := List.mem_take_iff_getElem.mp hm
     have hkc : l[k]? = some (chr c, ks) := by rw [List.getElem?_eq_getElem (Nat.lt_of_lt_of_le hk1 (Nat.min_le_right _ _)), hk2]
     have := (List.getElem?_inj (List.getElem?_eq_some_iff.mp hkc).1 NO.nd).mp (hkc.trans hd.symm)
     exact absurd (Nat.lt_of_lt_of_le hk1 (Nat.min_le_left _ _)) (by rw [this]; exact Nat.lt_irrefl _)
    ·show a.nodes ++ [(chr c, ks)] = _
     rw [List.take_add_one, hd, hnod]; rfl
  case finC =>
   rintro ρ μ ⟨s, a, rfl, BR, BI, hnod, hclk, ho, L⟩
   rw [List.length_map, List.take_length] at hnod
   have hRest := BI.rest
   have R0 : Rep (s.setBd s.tail.length) a := (BR.bd _).rep BI rfl
   have em : mem s a = mem (s.setBd s.tail.length) a := rfl
   rw [em]
   have hclk' : (s.setBd s.tail.length).clock = clkO row t := hclk
   have ho' : (s.setBd s.tail.length).o19 = .lst [] := ho
   clear BR
   generalize s.setBd s.tail.length = sB at *
   have hN3 := NO.three
   have hN5 := NO.few
   walk_at "e"
   walk_at "e"
   refine ex_mono (Q := fun fl ρ μ => fl = Fl.next ∧ Iv4 row a l ρ μ) ?_ ?_
   ·have hnl : a.nodes.length = l.length := by rw [hnod]
    have hLev : ∀ P : List Pr, Lev a P [] a := fun P => ⟨hRest.inv.more (fun p h => nomatch h), hRest.done, ⟨0, Chain.refl (b := a) a.ws⟩, rfl, rfl, (fun p h => nomatch h), fun p h => nomatch h⟩
    have hpotA : pot a ≤ 32 := by unfold pot; rw [BI.ws]; simp
    have htotA : total a ≤ 100 := by unfold total; rw [BI.ws, BI.chl, BI.mrg]; simp; exact Nat.le_trans (Nat.mul_le_mul_left 2 BI.five) (by decide)
    have g0 : (mem sB a)[0]? = some (clkO row t) := by show some sB.clock = _; rw [hclk']
    walk_at "w"
    refine w_fn rfl fn_tick ?_
    refine htick _ (many := 3) (by decide) g0 (by lia) (by exact Nat.le_trans (by assumption) (Nat.le_add_left _ _)) ?_
    intro z hz
    rw [mem_clk]
    have R1 := R0.clk (clkO row (t + 1))
    have c1 : (sB.setClk (clkO row (t + 1))).clock = clkO row (t + 1) := rfl
    have o1 : (sB.setClk (clkO row (t + 1))).o19 = .lst [] := ho'
    generalize sB.setClk (clkO row (t + 1)) = sC at *
    walk_at "w"
    by_cases hz1 : ((z : Nat) : Int) = 1
    ·refine iD hz1 ?_
     have g1 : (mem sC a)[0]? = some (clkO row (t + 1)) := by show some sC.clock = _; rw [c1]
     walk_at "w"
     refine w_methL (xs := []) (by show some sC.o19 = _; rw [o1]) ?_
     walk_at "w"
     refine w_bltn rfl (w_len (xs := l.map ndV) rfl (by rw [List.length_map]; unfold limit; exact Nat.lt_of_le_of_lt (by assumption) (by decide)) ?_)
     rw [List.length_map]
     walk_at "w"
     refine w_fn rfl fn_tick ?_
     refine htick _ (many := l.length) (by solve_by_elim (maxDepth := 4) only [*, Nat.le_of_lt, Nat.lt_of_lt_of_le, Nat.lt_of_le_of_lt, Nat.lt_trans, Nat.le_trans, Nat.ne_of_lt, Nat.ne_of_gt]) g1 (by lia) (by exact Nat.le_trans (by assumption) (Nat.le_add_left _ _)) ?_
     intro x hx
     rw [mem_clk]
     have R2 := R1.clk (clkO row (t + 1 + 1))
     have c2 : (sC.setClk (clkO row (t + 1 + 1))).clock = clkO row (t + 1 + 1) := rfl
     have o2 : (sC.setClk (clkO row (t + 1 + 1))).o19 = .lst [] := o1
     generalize sC.setClk (clkO row (t + 1 + 1)) = sD at *
     have g2 : (mem sD a)[0]? = some (clkO row (t + 1 + 1)) := by show some sD.clock = _; rw [c2]
     walk_at "w"
     refine w_bltn rfl (w_len (xs := l.map ndV) rfl (by rw [List.length_map]; unfold limit; exact Nat.lt_of_le_of_lt (by assumption) (by decide)) ?_)
     rw [List.length_map]
     walk_at "w"
     refine w_fn rfl fn_tick ?_
     refine htick _ (many := l.length) (by solve_by_elim (maxDepth := 4) only [*, Nat.le_of_lt, Nat.lt_of_lt_of_le, Nat.lt_of_le_of_lt, Nat.lt_trans, Nat.le_trans, Nat.ne_of_lt, Nat.ne_of_gt]) g2 (by lia) (by exact Nat.le_trans (by assumption) (Nat.le_add_left _ _)) ?_
     intro y hy
     rw [mem_clk]
     have R3 := R2.clk (clkO row (t + 1 + 1 + 1))
     have c3 : (sD.setClk (clkO row (t + 1 + 1 + 1))).clock = clkO row (t + 1 + 1 + 1) := rfl
     have o3 : (sD.setClk (clkO row (t + 1 + 1 + 1))).o19 = .lst [] := o2
     generalize sD.setClk (clkO row (t + 1 + 1 + 1)) = sE at *
     walk_at "w"
     refine app_told [] o3 (x, y) rfl (by decide) ?_
     have R4 := R3.tld (.lst (([] ++ [(x, y)]).map prV))
     have c4 : (sE.setTold (.lst (([] ++ [(x, y)]).map prV))).clock = clkO row (t + 1 + 1 + 1) := c3
     have o4 : (sE.setTold (.lst (([] ++ [(x, y)]).map prV))).o19 = .lst ([(x, y)].map prV) := rfl
     generalize sE.setTold (.lst (([] ++ [(x, y)]).map prV)) = sF at *
     walk_at "w"
     refine w_methI rfl rfl mo_Levels_merge ?_
     walk_at "w"
     have gt : (mem sF a)[19]? = some (.lst ([(x, y)].map prV)) := by show some sF.o19 = _; rw [o4]
     refine w_idxL (v := prV (x, y)) (listOf_ref gt) rfl ?_
     walk_at "w"
     refine w_idxT (v := nv x) rfl ?_
     walk_at "w"
     refine w_idxL (v := prV (x, y)) (listOf_ref gt) rfl ?_
     walk_at "w"
     refine w_idxT (v := nv y) rfl ?_
     walk_at "w"
     have hxA : x < a.nodes.length := by rw [hnl]; exact hx
     have hyA : y < a.nodes.length := by rw [hnl]; exact hy
     have LM := lev_merge (hLev [(x, y)]) (x := x) (y := y) (r := .tup [.str "told", .str "t"]) (.head _) hxA hyA (by decide +kernel) (by exact Nat.le_trans (Nat.succ_le_succ (by assumption)) (by decide))
     refine hmerge R4 hRest.inv.toOk _ hxA hyA (by rw [BI.chl]; exact Nat.le_trans (Nat.succ_le_succ (Nat.mul_le_mul_left 2 BI.five)) (by decide)) ?_
     intro v' s' F' R'
     walk_at "w"
     exact ⟨rfl, s', _, [(x, y)], t + 1 + 1 + 1, rfl, R', LM.1, Nat.le_trans LM.2.1 hpotA, Nat.le_trans LM.2.2 (by exact Nat.le_trans (Nat.succ_le_succ (by assumption)) (by decide)), by rw [F'.clock]; exact c4, by lia, by rw [F'.o19]; exact o4, Nat.le_refl 1, L⟩
    ·refine iN hz1 ?_
     walk_at "w"
     exact ⟨rfl, sC, a, [], t + 1, rfl, R1, hLev [], hpotA, by exact Nat.le_trans (by assumption) (Nat.le_add_left _ _), c1, by lia, o1, by decide, L⟩
   ·rintro _ ρ μ ⟨rfl, s', a', T, t', rfl, R', LV, hpot, htot, hclk'', ht', ho'', hTl, L⟩
    have hanod : a'.nodes = l := by rw [LV.nodes]; exact hnod
    clear R0 em hclk hclk' ho ho'
    walk_at "w"
    refine w_methI rfl rfl mo_Levels_settle ?_
    walk_at "w"
    refine hsettle (fun b => Lev a T T b ∧ total b ≤ 200) pot ?_ ?_ R' ⟨LV, htot⟩ (by lia) _ ?_
    ·rintro b ⟨L1, ht⟩
     exact ⟨L1.inv.toOk, by have := L1.inv.pot; lia, L1.inv.wsN⟩
    ·rintro b x d ⟨L1, ht⟩ hx hd
     have := lev_step L1 hx hd
     exact ⟨⟨this.1, by lia⟩, this.2.1⟩
    intro v2 s2 b F2 R2 J2 hw2
    have hbn : b.nodes = l := by rw [J2.1.nodes]; exact hnod
    have hB : Rest T b := ⟨J2.1.inv, J2.1.done, hw2, by rw [J2.1.mks]; exact BI.mks, J2.1.told, J2.1.inN, by have := J2.2; lia⟩
    have hclk2 : s2.clock = clkO row t' := by rw [F2.clock]; exact hclk''
    have ho2 : s2.o19 = .lst (T.map prV) := by rw [F2.o19]; exact ho''
    clear F2 R' LV J2 hpot htot hw2
    walk_at "w"
    refine w_bltn rfl (w_len (xs := l.map ndV) rfl (by rw [List.length_map]; unfold limit; lia) ?_)
    rw [List.length_map]
    walk_at "w"
    refine w_fn rfl fn_pairs ?_
    have g2 : (mem s2 b)[0]? = some (clkO row t') := by show some s2.clock = _; rw [hclk2]
    refine hpairs _ (many := l.length) (by lia) g2 (by lia) (by lia) ?_
    rintro ps _ t3 hps hpl hpos3 ht3 ⟨e3, rfl⟩
    have em3 : (mem s2 b).set 0 (clkO row t3) ++ e3 = mem ((s2.setClk (clkO row t3)).app e3) b := rfl
    rw [em3]
    have R3 : Rep ((s2.setClk (clkO row t3)).app e3) b := (R2.clk _).app _
    have c3 : ((s2.setClk (clkO row t3)).app e3).clock = clkO row t3 := rfl
    have o3 : ((s2.setClk (clkO row t3)).app e3).o19 = .lst (T.map prV) := ho2
    generalize (s2.setClk (clkO row t3)).app e3 = s3 at *
    walk_at "e"
    rename_i L3
    clear L
    walk_at "e"
    walk_at "e"
    refine ex_mono (Q := fun fl ρ μ => fl = Fl.next ∧ Iv5 b T l ps ρ μ) ?_ ?_
    ·have g3 : (mem s3 b)[0]? = some (clkO row t3) := by show some s3.clock = _; rw [c3]
     walk_at "w"
     refine w_fn rfl fn_tick ?_
     refine htick _ (many := 3) (by decide) g3 (by lia) (by lia) ?_
     intro z hz
     rw [mem_clk]
     have R4 := R3.clk (clkO row (t3 + 1))
     have c4 : (s3.setClk (clkO row (t3 + 1))).clock = clkO row (t3 + 1) := rfl
     have o4 : (s3.setClk (clkO row (t3 + 1))).o19 = .lst (T.map prV) := o3
     generalize s3.setClk (clkO row (t3 + 1)) = s4 at *
     have g4 : (mem s4 b)[0]? = some (clkO row (t3 + 1)) := by show some s4.clock = _; rw [c4]
     walk_at "w"
     by_cases hz0 : (0 : Int) < ((z : Nat) : Int)
     ·refine iD hz0 ?_
      walk_at "w"
      refine w_bltn rfl (w_len (xs := ps.map prV) rfl (by rw [List.length_map]; unfold limit; lia) ?_)
      rw [List.length_map]
      walk_at "w"
      refine w_fn rfl fn_tick ?_
      refine htick _ (many := ps.length) hpos3 g4 (by lia) (by lia) ?_
      intro w hw
      rw [mem_clk]
      have hp := hps _ (List.getElem_mem hw)
      walk_at "w"
      refine w_idxL (vs := ps.map prV) rfl (getI_map (List.getElem?_eq_getElem hw) (by lia)) ?_
      generalize ps[w] = p at *
      refine w_stuple rfl ?_
      show W1 (itemsOf (.tup [nv p.1, nv p.2]) _) _
      walk_at "w"
      rename_i L5
      exact ⟨rfl, s4.setClk _, p.1, p.2, rfl, R4.clk _, o4, hp.1, hp.2, L5.sub (Lk.cons rfl (Lk.cons rfl (Lk.cons rfl (Lk.cons rfl (Lk.cons rfl (Lk.cons rfl (Lk.nil _)))))))⟩
     ·refine iN hz0 ?_
      walk_at "w"
      refine w_assT rfl rfl ?_
      walk_at "w"
      refine w_bltn rfl (w_len (xs := l.map ndV) rfl (by rw [List.length_map]; unfold limit; lia) ?_)
      rw [List.length_map]
      walk_at "w"
      refine w_fn rfl fn_tick ?_
      refine htick _ (many := l.length) (by lia) g4 (by lia) (by lia) ?_
      intro x hx
      rw [mem_clk]
      have R5 := R4.clk (clkO row (t3 + 1 + 1))
      have c5 : (s4.setClk (clkO row (t3 + 1 + 1))).clock = clkO row (t3 + 1 + 1) := rfl
      have o5 : (s4.setClk (clkO row (t3 + 1 + 1))).o19 = .lst (T.map prV) := o4
      generalize s4.setClk (clkO row (t3 + 1 + 1)) = s5 at *
      have g5 : (mem s5 b)[0]? = some (clkO row (t3 + 1 + 1)) := by show some s5.clock = _; rw [c5]
      walk_at "w"
      refine w_bltn rfl (w_len (xs := l.map ndV) rfl (by rw [List.length_map]; unfold limit; lia) ?_)
      rw [List.length_map]
      walk_at "w"
      refine w_fn rfl fn_tick ?_
      refine htick _ (many := l.length) (by lia) g5 (by lia) (by lia) ?_
      intro y hy
      rw [mem_clk]
      walk_at "w"
      simp only [if_true, Bool.false_eq_true, if_false, List.reverse_cons, List.reverse_nil, List.nil_append, List.cons_append]
      walk_at "w"
      rename_i L5
      exact ⟨rfl, s5.setClk _, x, y, rfl, R5.clk _, o5, hx, hy, L5.sub (Lk.cons rfl (Lk.cons rfl (Lk.cons rfl (Lk.cons rfl (Lk.cons rfl (Lk.cons rfl (Lk.nil _)))))))⟩
    ·rintro _ ρ μ ⟨rfl, s4, x, y, rfl, R4, o4, hx, hy, L⟩
     clear L3 R2 R3 hclk2 ho2 g2 c3 o3 BR0
     walk_at "w"
     refine w_assT rfl rfl ?_
     walk_at "w"
     refine w_cls rfl rfl rfl mo_Trial_init ?_
     rw [mem_push, mem_len]
     refine htrial hB (R4.push (.inst "Trial" [])) (Fz.new R4 _) R4.bnd _ ?_
     intro s5 R5 Z5 o5
     refine ⟨rfl, ?_⟩
     have o5 : s5.o19 = .lst (T.map prV) := by rw [o5]; exact o4
     generalize s4.tail.length = tr at *
     have S5 := hB.inv.toShp
     walk_at "w"
     refine w_methI rfl rfl mo_Levels_classes ?_
     walk_at "w"
     refine hclasses S5 _ ?_
     have hCl : ∃ l' : List Nat, ((List.range b.par.length).filter fun c => b.par[c]? == some c).map nv = l'.map nv := ⟨_, rfl⟩
     generalize hCdef : ((List.range b.par.length).filter fun c => b.par[c]? == some c).map nv = C at *
     walk_at "w"
     have hel : b.edges.length < limit := Nat.lt_of_le_of_lt hB.inv.edges (by decide)
     refine w_bltn rfl (w_listL (xs := b.edges) (listOf_ref rfl) hel ?_)
     rw [mem_push, mem_len]
     have R6 := R5.push (.lst b.edges)
     have Z6 := Z5.fr (Fr.push s5 (.lst b.edges))
     have E6 := Fz.new R5 (.lst b.edges)
     have o6 : (s5.push (.lst b.edges)).o19 = .lst (T.map prV) := o5
     generalize s5.push (.lst b.edges) = s6 at *
     generalize s5.tail.length = ej at *
     have hmk0 : b.mks.length = 0 := by rw [hB.mks]; rfl
     walk_at "w"
     refine w_methI rfl rfl mo_Levels_size ?_
     walk_at "w"
     refine hsize S5 _ ?_
     walk_at "w"
     refine w_methI rfl rfl mo_Levels_depth ?_
     walk_at "w"
     refine hdepth R6 (by lia) _ ?_
     walk_at "w"
     simp only [if_true, Bool.false_eq_true, if_false, List.reverse_cons, List.reverse_nil, List.nil_append, List.cons_append]
     walk_at "w"
     refine w_fn rfl fn_due ?_
     have hNk : ∀ d ∈ l, d.2.length ≤ 2 ∧ ∀ k ∈ d.2, k < l.length := by rw [← hbn]; exact S5.kids
     have hTin : ∀ p ∈ T, p.1 < l.length ∧ p.2 < l.length := by rw [← hbn]; exact hB.inN
     refine hdue (T := T) hN5 NO.nd hNk hTin hps (by lia) hpl hx hy _ (fun μ' G => listOf_ref (G.get (by show some s6.o19 = _; rw [o6]))) ?_
     rintro _ ⟨e7, rfl⟩
     have em7 : mem s6 b ++ e7 = mem (s6.app e7) b := rfl
     rw [em7]
     have R7 := R6.app e7
     have Z7 := Z6.fr (Fr.app s6 e7)
     have E7 := E6.fr (Fr.app s6 e7)
     generalize s6.app e7 = s7 at *
     have hdueV : ∃ dv, dv = (if likeB l (T ++ uniq ps) x y = true then V.lst ((greedy (fun l_1 => likeB l (T ++ l_1) x y) (uniq ps) (uniq ps)).map prV) else .none) := ⟨_, rfl⟩
     obtain ⟨dv, hdv⟩ := hdueV
     rw [← hdv]
     have hdv2 : (if likeB b.nodes (ps ++ T) x y = true then V.lst ((greedy (fun l' => likeB b.nodes (l' ++ T) x y) (uniq ps) (uniq ps)).map prV) else .none) = dv := by
      rw [hdv, hbn]
      have h1 : likeB l (ps ++ T) x y = likeB l (T ++ uniq ps) x y := likeB_same fun p => by simp only [List.mem_append, mem_uniq]; exact or_comm
      have h2 : (fun l' => likeB l (l' ++ T) x y) = fun l' => likeB l (T ++ l') x y := by
       funext l'
       exact likeB_same fun p => by simp only [List.mem_append]; exact or_comm
      rw [h1, h2]
     have hdk : dv = .none ∨ ∃ l : List Pr, dv = .lst (l.map prV) := by
      rw [hdv]
      split
      ·exact .inr ⟨_, rfl⟩
      ·exact .inl rfl
     clear hdv
     clear L
     walk_at "w"
     rename_i L8
     refine w_src ?_
     walk_at "w"
     refine w_bltn rfl (w_rng1 (w_sofG (okRng_nat (w := 2) (by decide)) ?_))
     rw [show ((2 : Int)) = ((2 : Nat) : Int) from rfl, rng_nat]
     refine w_frF ((List.range 2).map nv) (Iv6 b tr ej ps x y C dv) ?hkF
      (fun i ρ μ _ _ => at_vals) ?stF ?finF ⟨s7, rfl, R7, Z7, E7, L8.sub (Lk.cons rfl (Lk.cons rfl (Lk.cons rfl (Lk.cons rfl (Lk.cons rfl (Lk.cons rfl (Lk.cons rfl (Lk.nil _))))))))⟩
     case hkF => rfl
     case finF =>
      rintro ρ μ ⟨s8, rfl, _, _, _, L9⟩
      clear L8
      walk_at "w"
      rfl
     case stF =>
      rintro i v ρ μ hv ⟨s8, rfl, R8, Z8, E8, L9⟩
      clear L8
      walk_at "w"
      rename_i L10
      refine w_methI (fs := [("heap", .ref 1)]) (C := "Trial") (by rw [tail_get]; exact Z8.1) rfl mo_Trial_causes ?_
      walk_at "w"
      refine hcauses hB R8 Z8 _ ps (by rw [hbn]; exact hps) (by lia) (by rw [hbn]; exact hx) (by rw [hbn]; exact hy) ?_
      intro s9 F9 R9
      rw [hdv2]
      have E9 := E8.fr F9
      have Z9 := Z8.fr F9
      walk_at "w"
      refine w_ne (veq_res dv hdk _) ?_
      refine iM nofun ?_
      walk_at "w"
      refine w_methI rfl rfl mo_Levels_classes ?_
      walk_at "w"
      refine hclasses S5 _ ?_
      have hCeq : ((List.range b.par.length).filter fun c => b.par[c]? == some c).map nv = C := hCdef
      rw [hCeq]
      walk_at "w"
      refine w_bltn rfl (w_listL (xs := b.edges) (listOf_ref rfl) hel ?_)
      rw [mem_push, mem_len]
      have R11 := R9.push (.lst b.edges)
      have E11 := E9.fr (Fr.push s9 (.lst b.edges))
      have Z11 := Z9.fr (Fr.push s9 (.lst b.edges))
      have N11 := Fz.new R9 (.lst b.edges)
      generalize s9.push (.lst b.edges) = s11 at *
      generalize s9.tail.length = ek at *
      walk_at "w"
      refine w_methI rfl rfl mo_Levels_size ?_
      walk_at "w"
      refine hsize S5 _ ?_
      walk_at "w"
      refine w_methI rfl rfl mo_Levels_depth ?_
      walk_at "w"
      refine hdepth R11 (by lia) _ ?_
      walk_at "w"
      refine w_ne (veq_photo hCl hB.inv.edp (by rw [tail_get]; exact N11.1) (by rw [tail_get]; exact E11.1) _ _) ?_
      refine iM nofun ?_
      walk_at "w"
      simp only [or_and, Bool.false_eq_true, if_false]
      walk_at "w"
      exact .inl ⟨rfl, s11, rfl, R11, Z11, E11, L10.sub (Lk.cons rfl (Lk.cons rfl (Lk.cons rfl (Lk.cons rfl (Lk.cons rfl (Lk.cons rfl (Lk.cons rfl (Lk.nil _))))))))⟩
theorem runs : Runs := by
 intro script hl
 rw [show lawD = nthM 19 0 by unfold lawD; rw [fn_law]; rfl]
 exact law_walk hl 0
end Mine
theorem PySem.Challenge.cw_rg0125_01_holds : PySem.Challenge.rw_rg0125_01.Holds :=
 Mine.xx Mine.runs
