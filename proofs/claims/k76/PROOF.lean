import PyProof.Rows.All
import Wide.All
import OpenK.AllK
import Wide.FinOn
import HandS.ForMost
import HandS.Exc
import HandS.Ends
import HandS.ExcInit
import HandS.ExcField
import HandS.HeadWalk
import HandS.HeadHook2
import HandS.Codes
import HandS.Head2
import HandS.Head3
import KE.KExcSuper
import KE.SortData
import HandS.TupAny
import HandS.TupMul
import HandS.Flow
import HandS.Style
import HandS.IsInst
import HandS.List
import HandS.Text
import HandS.Conv
import HandS.Gcd
import HandS.WordsDict
import HandS.Dict
import KE.DataMinMax
import PyProof.ReprReads
import HandS.Flt
import HandS.SortOrd
import HandS.Comp
import HandS.Iter
import HandS.ExcOwn
import KE.GoesEnum
import HandS.DictComp
import HandS.TryMany
import HandS.Lambda
import HandS.HeadEnd
import PySem.Challenge.RW_prefixwire_k76_whole_scripts_judged
section
set_option Elab.async false
set_option linter.all false
set_option maxRecDepth 100000
/-! OL, part a: a small language of pure values with a store, deep embedded. -/
namespace OL
open PySem

/-- a dict's key -/
abbrev Ky := Sum Int Str
/-- values. tup, lv (a list that nobody changes), dv (such a dict) are values; ref: a thing of the store, which may change; fn: a def of the module;
   sc: a list that is read alone (the script); exc: a caught error; clo: a lambda with what it captured; rg, enu: range(..), enumerate(..) where they are walked at once; own: in a slot alone, a list (a dict) that the def itself made and changes -/
inductive PV where
  | non | bl (b : Bool) | int (i : Int) | str (s : Str) | tup (l : List PV) | lv (l : List PV) | dv (ks : List Ky) (vs : List PV)
  | ref (i : Nat) | fn (i : Nat) | exc (c : Nat) (fs : List PV) | clo (k : Nat) (cs : List PV) | sc (l : List PV) | rg (a b c : Int) | enu (v : PV) (s : Int) | own (v : PV)
  deriving Inhabited

inductive SO where
  | lst (l : List PV)
  | dct (ks : List Ky) (vs : List PV)
  deriving Inhabited
abbrev Sto := List SO
abbrev Env := List (Option PV)

/-- what comes out: a value (or what not) and the store; an error of a class with its fields; err: nothing that is carried here -/
inductive Res (α : Type) where
  | ok (a : α) (m : Sto)
  | exc (c : Nat) (fs : List PV) (m : Sto)
  | err

namespace Res
def bind {α β : Type} (r : Res α) (f : α → Sto → Res β) : Res β := match r with
  | .ok a m => f a m
  | .exc c fs m => .exc c fs m
  | .err => .err
@[simp] theorem bind_ok {α β : Type} (a : α) (m : Sto) (f : α → Sto → Res β) : (Res.ok a m).bind f = f a m := rfl
@[simp] theorem bind_exc {α β : Type} (c : Nat) (fs : List PV) (m : Sto) (f : α → Sto → Res β) : (Res.exc c fs m : Res α).bind f = .exc c fs m := rfl
@[simp] theorem bind_err {α β : Type} (f : α → Sto → Res β) : (Res.err : Res α).bind f = .err := rfl
/-- no error may come out here -/
def calm {α : Type} : Res α → Res α
  | .ok a m => .ok a m
  | _ => .err
@[simp] theorem calm_ok {α : Type} (a : α) (m : Sto) : (Res.ok a m).calm = .ok a m := rfl
/-- an optional value -/
def opt {α : Type} (o : Option α) (m : Sto) : Res α := match o with
  | some a => .ok a m
  | none => .err
@[simp] theorem opt_some {α : Type} (a : α) (m : Sto) : Res.opt (some a) m = .ok a m := rfl
@[simp] theorem opt_none {α : Type} (m : Sto) : (Res.opt none m : Res α) = .err := rfl
end Res

inductive Bop where | add | sub | mul | fdiv | mod | pow | shl | shr | band | bor | bxor
  deriving DecidableEq
inductive Cop where | eq | ne | lt | le | gt | ge | isn | nisn | mem | nmem
  deriving DecidableEq
inductive Ty where | int | bool | str | tup | lst | cls (c : Nat)
  deriving DecidableEq
/-- built-in functions by name -/
inductive Bi where | len | tuple | list | sum | min | max | abs | sorted | any | all | int | repr | str | gcd | isqrt
  deriving DecidableEq
/-- methods of things of the store, of values -/
inductive Me where | append | pop | get
  deriving DecidableEq
/-- targets: names, tuples of targets -/
inductive Tg where
  | nm (i : Nat)
  | tp (l : List Tg)

/-- expressions. dic: keys and values in turn. own i: a slot that holds a list (a dict) of the def's own, which it changes -/
inductive E where
  | con (v : PV) | var (i : Nat) | own (i : Nat) | glo (n : Nat)
  | bin (o : Bop) (a b : E) | neg (a : E) | not (a : E)
  | and (a b : E) | or (a b : E) | ife (c a b : E)
  | cmp (o : Cop) (a b : E) | chn (o p : Cop) (a b c : E)
  | tup (l : List E) | lst (l : List E) | dic (l : List E) | box (e : E)
  | idx (a i : E) | slc (a : E) (lo hi : Option E)
  | isi (a : E) (t : Ty)
  | call (f : Nat) (l : List E) | calo (f : Nat) (l : List E) | cav (i : Nat) (l : List E) | blt (b : Bi) (l : List E) | met (m : Me) (o : E) (l : List E)
  | fld (i c n : Nat) | rng (l : List E) | enu (a : E) (s : Option E)
  /-- [elt for tg in it if ifs], a second clause; vs: the slots of the comprehension's own names (of the second clause) -/
  | comp (elt : E) (tg : Tg) (it : E) (ifs : Option E) (vs : List Nat)
  | com2 (elt : E) (tg : Tg) (it : E) (ifs : Option E) (tg2 : Tg) (it2 : E) (ifs2 : Option E) (vs vs2 : List Nat)
  | dcm (k v : E) (tg : Tg) (it : E) (vs : List Nat)

/-- statements. o..: upon a slot of the def's own: append, extend, o[i] = e, o[i] op= e, target = o.pop() -/
inductive S where
  | expr (e : E) | asg (t : Tg) (e : E) | par (ts : List (Nat × Bool)) (es : List E) | asi (o i e : E)
  | oasg (i : Nat) (e : E) | oap (i : Nat) (e : E) | oex (i : Nat) (e : E) | osi (i : Nat) (k e : E) | oag (i : Nat) (k : E) (o : Bop) (e : E) | opo (t : Tg) (i : Nat)
  | aug (i : Nat) (o : Bop) (e : E)
  | iff (c : E) (a b : List S) | whl (c : E) (b : List S) | forr (t : Tg) (it : E) (b : List S)
  | ret (e : Option E) | rai (c : Nat) (l : List E) | brk | cnt | pas
  | nev | trt (b : List S) | obx (i : Nat) (e : E) | abx (o i e : E)
  | tri (b : List S) (hs : List S) | hdl (cs : List Nat) (i : Option Nat) (b : List S)
end OL
end
section
set_option Elab.async false
set_option linter.all false
set_option maxRecDepth 100000
/-! OL, part aa: what the top leaves, as a look tells it: the data alone (the proofs stand in part za). -/
namespace OL
open PySem PySem.Spec PyProof.Rows L2
structure FD where
  name : String
  npar : Nat
  nslot : Nat
  body : List S
structure LD where
  npar : Nat
  body : E
structure Prog where
  funs : List FD
  lams : List LD
  glos : List PV
  fuel : Nat
  sub : Nat → Nat → Bool
/-- the words of such an __init__ -/
structure IPos where
  p1 : Pos
  p2 : Pos
  p3 : Pos
  q0 : Pos
  q1 : Pos
  q2 : Pos
  q3 : Pos
  q4 : Pos
  q5 : Pos
  r1 : Pos
  r2 : Pos
  r3 : Pos
  r4 : Pos
  s1 : Pos
  s2 : Pos
  s3 : Pos
  s4 : Pos
  kd : Nat
def iSup (t : Str) (p : IPos) : Stmt := .Expr (.Call (.Attribute (.Call (.Name "super" p.q0) [] [] p.q1) "__init__" p.q2) [.Constant (.str t) p.kd p.q3] [] p.q4) p.q5
def iSet (f : Str) (a b c d : Pos) : Stmt := .Assign [.Attribute (.Name "self" a) f b] (.Name f c) d
def iArgs1 (f : Str) (p : IPos) : Arguments := { posonlyargs := [], args := [{ arg := "self", annotation := none, pos := p.p1 }, { arg := f, annotation := none, pos := p.p2 }], vararg := none, kwonlyargs := [], kw_defaults := [], kwarg := none, defaults := [] }
def iArgs2 (f f2 : Str) (p : IPos) : Arguments := { posonlyargs := [], args := [{ arg := "self", annotation := none, pos := p.p1 }, { arg := f, annotation := none, pos := p.p2 }, { arg := f2, annotation := none, pos := p.p3 }], vararg := none, kwonlyargs := [], kw_defaults := [], kwarg := none, defaults := [] }
def iScope (fs : List Str) : Scope := { kind := .function, names := (PySem.Str.ofString "self", .local) :: (fs.map fun f => (f, NameKind.local)) ++ [(PySem.Str.ofString "__class__", .free), (PySem.Str.ofString "super", .globalImplicit)], isGenerator := false, isCoroutine := false, more := [] }
def iArgs : List Str → IPos → Arguments
  | [f], p => iArgs1 f p
  | [f, f2], p => iArgs2 f f2 p
  | _, p => iArgs1 "" p
def iBody : List Str → Str → IPos → List Stmt
  | [f], t, p => [iSup t p, iSet f p.r1 p.r2 p.r3 p.r4]
  | [f, f2], t, p => [iSup t p, iSet f p.r1 p.r2 p.r3 p.r4, iSet f2 p.s1 p.s2 p.s3 p.s4]
  | _, t, p => [iSup t p]
def frA (n : Nat) : List Addr := mainGlobals :: cStatics :: List.range n
abbrev frN (g : Addr → Option Obj) (n : Nat) : PySem.W.Frag := He.frG g (frA n)
mutual
/-- the value u is the constant v -/
def valB (g : Addr → Option Obj) (n : Nat) : PV → Value → Bool
  | .non, .none => true
  | .bl b, .bool c => b == c
  | .int i, .int j _ => decide (i = j)
  | .str x, .str y _ => decide (x = y)
  | .tup l, .ref a => decide (a < n) && (match g a with
    | some ⟨.type c, _, .seq its _, _⟩ => decide (c = "tuple") && decide (its.size ≤ sizeLine) && valsB g n l its.toList
    | _ => false)
  | _, _ => false
def valsB (g : Addr → Option Obj) (n : Nat) : List PV → List Value → Bool
  | [], [] => true
  | v :: l, u :: us => valB g n v u && valsB g n l us
  | _, _ => false
end
def noPos : Pos := ⟨0, 0, 0, 0⟩
def noIPos : IPos := ⟨noPos, noPos, noPos, noPos, noPos, noPos, noPos, noPos, noPos, noPos, noPos, noPos, noPos, noPos, noPos, noPos, noPos, 0⟩
def iposB : List Stmt → IPos → IPos × Str
  | [.Expr (.Call (.Attribute (.Call (.Name _ q0) _ _ q1) _ q2) [.Constant (.str t) kd q3] _ q4) q5, .Assign [.Attribute (.Name _ a) _ b] (.Name _ c) d], p =>
    ({ p with q0 := q0, q1 := q1, q2 := q2, q3 := q3, q4 := q4, q5 := q5, kd := kd, r1 := a, r2 := b, r3 := c, r4 := d }, t)
  | [.Expr (.Call (.Attribute (.Call (.Name _ q0) _ _ q1) _ q2) [.Constant (.str t) kd q3] _ q4) q5, .Assign [.Attribute (.Name _ a) _ b] (.Name _ c) d, .Assign [.Attribute (.Name _ e) _ f] (.Name _ g) h], p =>
    ({ p with q0 := q0, q1 := q1, q2 := q2, q3 := q3, q4 := q4, q5 := q5, kd := kd, r1 := a, r2 := b, r3 := c, r4 := d, s1 := e, s2 := f, s3 := g, s4 := h }, t)
  | _, p => (p, "")
def iposA (a : Arguments) : IPos := match a.args with
  | [x, y] => { noIPos with p1 := x.pos, p2 := y.pos }
  | [x, y, z] => { noIPos with p1 := x.pos, p2 := y.pos, p3 := z.pos }
  | _ => noIPos
/-- the words of a class's __init__ -/
def clsInit : Stmt → Arguments × List Stmt
  | .ClassDef _ _ _ (.FunctionDef _ a b _ _ _ _ _ _ _ :: _) _ _ _ _ _ _ _ => (a, b)
  | _ => (⟨[], [], none, [], [], none, []⟩, [])
/-- an error class: its name, its fields, its statement -/
structure XD where
  name : Str
  fs : List Str
  st : Stmt
def XD.pos (x : XD) : IPos × Str := iposB (clsInit x.st).2 (iposA (clsInit x.st).1)
def XD.qual (x : XD) : Str := x.name ++ ".__init__"
abbrev FnI : Type := Option (Str × Str × Arguments × FuncBody × Scope × Addr × Addr)
def fnI (K : PySem.W.Frag) (f : Addr) : FnI := match K.lookup f with
  | some ⟨_, _, .func fd, _⟩ => some (fd.name, fd.qualname, fd.params, fd.body, fd.scope, fd.globals, fd.builtins)
  | _ => none
def XD.val (x : XD) : FnI := some ("__init__", x.qual, iArgs x.fs x.pos.1, .stmts (iBody x.fs x.pos.2 x.pos.1), iScope x.fs, mainGlobals, builtinsNs)
def XD.fI (K : PySem.W.Frag) (x : XD) : Addr := He.ma K (He.ga K x.name) "__init__"
def exClsB (K : PySem.W.Frag) (C : Addr) : Bool := match K.lookup C with
  | some ⟨.type "type", _, .cls cd, sl⟩ => (match cd.mro, sl.toList with
    | .ref C' :: bm, [_, _, _, _, some (.builtin n), _] => decide (C' = C) && decide (n = "ValueError.__new__") && !cd.hasDel && cd.hasDict && PySem.HandSPX.refsVE bm
    | _, _ => false)
  | _ => false
def noneB (K : PySem.W.Frag) : Value → Bool
  | .none => true
  | _ => false
/-- what else is asked of the __init__'s function -/
def iniB (K : PySem.W.Frag) (P : Program) (C : Addr) (q : Str) (f : Addr) : Bool := match K.lookup f with
  | some ⟨_, _, .func fd, _⟩ => noneB K fd.defaults && noneB K fd.kwdefaults && PySem.W.codeIn K fd.code q && (match fd.closure with
      | [(n, cc)] => decide (n = "__class__") && (match K.lookup cc with
        | some ⟨_, _, .cell (some (.ref D)), _⟩ => decide (D = C)
        | _ => false)
      | _ => false) && (match fd.code with
      | .ref cda => (match K.lookup cda with
        | some ⟨_, _, .fields vs, _⟩ => (match (vs[2]? : Option Value) with
          | some (Value.str file _) => (P.main.file : Str) == file
          | _ => false)
        | _ => false)
      | _ => false)
  | _ => false
def XD.ok (K : PySem.W.Frag) (P : Program) (x : XD) : Bool :=
  let C := He.ga K x.name
  He.eqO (PySem.W.nsIn K mainGlobals x.name) (some (some (.ref C))) && exClsB K C && He.eqO (PySem.W.findIn K (.ref C) "__setattr__") (some (some (.builtin "object.__setattr__"))) && (x.fs.all fun f => He.eqO (PySem.W.findIn K (.ref C) f) (some none)) &&
  He.eqO (PySem.W.findIn K (.ref C) "__init__") (some (some (.ref (x.fI K)))) && decide (PySem.W.typeIn K (.ref (x.fI K)) = some (.type "function")) && PySem.W.keepIn K (.ref C) && decide (PySem.W.subIn K (.ref C) (.type "BaseException") = some true) &&
  decide (PySem.W.subIn K (.ref C) (.type "ValueError") = some true) && decide (PySem.W.mroIn K C (.ref C) = some true) && decide (PySem.W.typeIn K (.ref C) = some (.type "type")) && decide (PySem.W.nsIn K cStatics "thirdparty.any" = some none) &&
  decide (PySem.W.ks_superIn K C C "__init__" = some (some (.builtin "ValueError.__init__"))) && decide (PySem.W.nsIn K mainGlobals "super" = some none) && !(P.main.scope.names.lookup ("super" : Str)).isSome && iniB K P C x.qual (x.fI K) && xfB K C && ((x.pos.1.q2).endLine == (x.pos.1.q4).line) &&
  decide ((("self" : Str) ∉ x.fs) ∧ ("super" : Str) ∉ x.fs ∧ ("__class__" : Str) ∉ x.fs ∧ ("__debug__" : Str) ∉ x.fs ∧ x.fs.Nodup)
/-- a def: its words, its parameters, its slots' names, its body in the small language -/
structure DD where
  d : He.DefD
  ps : List Str
  N : List Str
  D : FD
/-- what a name of the module is -/
inductive GS where
  | fn (x : DD)
  | con (nm : Str) (v : PV)
  | cls (x : XD)
  | oth (nm : Str)
def GS.name : GS → Str
  | .fn x => x.d.at_.1
  | .con nm _ => nm
  | .cls x => x.name
  | .oth nm => nm
/-- ord: the module's names in their order; blt: the built-ins' names; fuel: the checker's; loop: the small language's -/
structure Md where
  ord : List GS
  blt : List Str
  fuel : Nat
  loop : Nat
def GS.fn? : GS → Option DD
  | .fn x => some x
  | _ => none
def GS.con? : GS → Option (Str × PV)
  | .con nm v => some (nm, v)
  | _ => none
def GS.cls? : GS → Option XD
  | .cls x => some x
  | _ => none
def Md.defs (m : Md) : List DD := m.ord.filterMap GS.fn?
def Md.cons (m : Md) : List (Str × PV) := m.ord.filterMap GS.con?
def Md.xds (m : Md) : List XD := m.ord.filterMap GS.cls?
def codeG (g : Addr → Option Obj) (n : Nat) (cd : Value) (q : Str) : Bool := match cd with
  | .ref c => decide (c < n) && (match g c with
      | some ⟨_, _, .fields vs, _⟩ => (match vs.toList with
        | _ :: .str nm _ :: _ => nm == q
        | _ => false)
      | _ => false)
  | _ => false
/-- a def's object: what is asked of it, what it is -/
def defG (g : Addr → Option Obj) (n : Nat) (x : DD) (v : Value) : Bool × He.FnW := match v with
  | .ref a => (match g a with
    | some ⟨_, _, .func fd, _⟩ => (decide (a < n) && codeG g n fd.code x.d.qual && noneB [] fd.defaults && noneB [] fd.kwdefaults, some (fd.name, fd.qualname, fd.params, fd.body, fd.scope, fd.globals, fd.closure, fd.builtins))
    | _ => (false, none))
  | _ => (false, none)
/-- the names' entries, one after another -/
def entG (g : Addr → Option Obj) (n : Nat) : List GS → List DictEntry → Bool × List He.FnW
  | [], [] => (true, [])
  | s :: r, e :: es => (match s with
    | .fn x => (e.key.isStr x.d.at_.1 && (defG g n x e.val).1 && (entG g n r es).1, (defG g n x e.val).2 :: (entG g n r es).2)
    | .con nm v => (e.key.isStr nm && valB g n v e.val && (entG g n r es).1, (entG g n r es).2)
    | .cls x => (e.key.isStr x.name && (entG g n r es).1, (entG g n r es).2)
    | .oth nm => (e.key.isStr nm && (entG g n r es).1, (entG g n r es).2))
  | _, _ => (false, [])
/-- the first entries: names that begin with two low lines -/
def dun (s : Str) : Bool := match s.cps.toList with
  | a :: b :: _ => a == 95 && b == 95
  | _ => false
def dunK : Value → Bool
  | .str s _ => dun s
  | _ => false
def Md.exB (m : Md) (P : Program) (K : PySem.W.Frag) : Bool := (m.xds.all fun x => x.ok K P) && (m.xds.zipIdx.all fun p => m.xds.zipIdx.all fun q => decide (PySem.W.exmOne K (.ref (He.ga K p.1.name)) (.ref (He.ga K q.1.name)) = some (decide (p.2 = q.2))))
abbrev AlO : Type := (Bool × List He.FnW) × Bool × List FnI
def Md.obsG (m : Md) (P : Program) (n : Nat) (g : Addr → Option Obj) : AlO := match g mainGlobals with
  | some ⟨_, _, .dict es _, _⟩ => (entG g n m.ord (es.toList.drop (es.toList.length - m.ord.length)), (es.toList.take (es.toList.length - m.ord.length)).all (fun e => dunK e.key) && m.exB P (frN g n), m.xds.map fun x => fnI (frN g n) (x.fI (frN g n)))
  | _ => ((false, []), false, [])
def Md.val (m : Md) : AlO := ((true, m.defs.map fun x => x.d.val), true, m.xds.map XD.val)
/-- what is known of the part K of the heap -/
def Md.says (m : Md) (P : Program) (K : PySem.W.Frag) : Prop := ∃ g n, K = frN g n ∧ m.obsG P n g = m.val
def Md.hook (m : Md) (P : Program) (n : Nat) : PySem.W.Hook where
  α := AlO
  obs := fun s => m.obsG P n s.heap.get?
  val := fun _ => m.val
  says := fun _ h => ∃ K : PySem.W.Frag, K.In h ∧ m.says P K
  of := fun _ _ e => ⟨_, He.frG_in, _, n, rfl, e⟩
  keeps := fun _ _ _ ⟨K, hK, c⟩ k => ⟨K, PySem.W.Frag.In.keeps hK k, c⟩
theorem Md.obsG_eq {m : Md} {P : Program} {n : Nat} {g : Addr → Option Obj} {s : Shared} (h : ∀ a, g a = s.heap.get? a) : m.obsG P n g = (m.hook P n).obs s := by
  have e : g = s.heap.get? := funext h
  rw [e] <;> rfl
end OL
end
section
set_option Elab.async false
set_option linter.all false
set_option maxRecDepth 100000
set_option maxHeartbeats 0
namespace M76
open PySem OL
def tp (i : Nat) : Stmt := PySem.Challenge.pw_prefixwire_k76_whole_scripts_judged.main.body.getD i (.Pass ⟨0, 0, 0, 0⟩)
def dd (x : String) (nm : String) (i : Nat) : He.DefD := ⟨(x, none), nm, nm, C8.fnArgs (tp i), C8.fnBody (tp i), C8.fnScope (tp i), [], []⟩
/-- is_whole -/
def f0 : FD := ⟨"is_whole", 1, 1, [(.ret (some (.and (.isi (.var 0) .int) (.not (.isi (.var 0) .bool)))))]⟩
/-- is_within -/
def f1 : FD := ⟨"is_within", 3, 3, [(.ret (some (.and (.call 0 [(.var 0)]) (.chn .le .le (.var 1) (.var 0) (.var 2)))))]⟩
/-- need_number -/
def f2 : FD := ⟨"need_number", 3, 3, [(.iff (.not (.call 1 [(.var 0), (.var 1), (.var 2)])) [(.rai 1 [(.var 0)])] []), (.ret (some (.var 0)))]⟩
/-- are_octets -/
def f3 : FD := ⟨"are_octets", 2, 3, [(.iff (.or (.not (.isi (.var 0) .tup)) (.cmp .gt (.blt .len [(.var 0)]) (.var 1))) [(.ret (some (.con (.bl false))))] []), (.ret (some (.cmp .eq (.comp (.con (.int (1))) (.nm 2) (.var 0) (some (.not (.call 1 [(.var 2), (.con (.int (0))), (.con (.int (255)))]))) [2]) (.lst []))))]⟩
/-- is_piece -/
def f4 : FD := ⟨"is_piece", 1, 4, [(.iff (.or (.not (.isi (.var 0) .tup)) (.or (.cmp .ne (.blt .len [(.var 0)]) (.con (.int (3)))) (.not (.isi (.idx (.var 0) (.con (.int (2)))) .bool)))) [(.ret (some (.con (.bl false))))] []), (.asg (.tp [(.nm 1), (.nm 2), (.nm 3)]) (.var 0)), (.iff (.or (.not (.call 1 [(.var 1), (.con (.int (0))), (.glo 2)])) (.not (.call 3 [(.var 2), (.glo 1)]))) [(.ret (some (.con (.bl false))))] []), (.ret (some (.and (.or (.cmp .ne (.var 2) (.tup [])) (.var 3)) (.cmp .le (.bin .add (.var 1) (.blt .len [(.var 2)])) (.glo 2)))))]⟩
/-- need_piece -/
def f5 : FD := ⟨"need_piece", 1, 1, [(.iff (.not (.call 4 [(.var 0)])) [(.rai 3 [(.con (.str "form"))])] []), (.ret (some (.var 0)))]⟩
/-- inbox_new -/
def f6 : FD := ⟨"inbox_new", 1, 1, [(.expr (.call 2 [(.var 0), (.con (.int (1))), (.glo 1)])), (.ret (some (.tup [(.con (.int (0))), (.tup []), (.con (.non)), (.var 0), (.con (.int (0)))])))]⟩
/-- is_block -/
def f7 : FD := ⟨"is_block", 1, 1, [(.iff (.or (.not (.isi (.var 0) .tup)) (.or (.cmp .ne (.blt .len [(.var 0)]) (.con (.int (2)))) (.not (.call 1 [(.idx (.var 0) (.con (.int (0)))), (.con (.int (0))), (.glo 2)])))) [(.ret (some (.con (.bl false))))] []), (.ret (some (.and (.call 3 [(.idx (.var 0) (.con (.int (1)))), (.glo 1)]) (.and (.cmp .ne (.idx (.var 0) (.con (.int (1)))) (.tup [])) (.cmp .le (.bin .add (.idx (.var 0) (.con (.int (0)))) (.blt .len [(.idx (.var 0) (.con (.int (1))))])) (.glo 2))))))]⟩
/-- has_form -/
def f8 : FD := ⟨"has_form", 1, 1, [(.iff (.or (.not (.isi (.var 0) .tup)) (.or (.cmp .ne (.blt .len [(.var 0)]) (.con (.int (7)))) (.not (.isi (.idx (.var 0) (.con (.int (2)))) .bool)))) [(.ret (some (.con (.bl false))))] []), (.iff (.or (.not (.call 1 [(.idx (.var 0) (.con (.int (0)))), (.con (.int (0))), (.glo 2)])) (.not (.call 3 [(.idx (.var 0) (.con (.int (1)))), (.glo 1)]))) [(.ret (some (.con (.bl false))))] []), (.iff (.or (.cmp .gt (.bin .add (.idx (.var 0) (.con (.int (0)))) (.blt .len [(.idx (.var 0) (.con (.int (1))))])) (.glo 2)) (.not (.call 1 [(.idx (.var 0) (.con (.int (3)))), (.con (.int (0))), (.glo 0)]))) [(.ret (some (.con (.bl false))))] []), (.ret (some (.and (.call 36 [(.idx (.var 0) (.con (.int (4))))]) (.and (.call 36 [(.idx (.var 0) (.con (.int (5))))]) (.call 1 [(.idx (.var 0) (.con (.int (6)))), (.con (.int (0))), (.glo 0)])))))]⟩
/-- has_form_inboxes -/
def f9 : FD := ⟨"has_form_inboxes", 1, 2, [(.iff (.or (.not (.isi (.var 0) .tup)) (.or (.cmp .ne (.blt .len [(.var 0)]) (.con (.int (5)))) (.not (.call 1 [(.idx (.var 0) (.con (.int (0)))), (.con (.int (0))), (.glo 2)])))) [(.ret (some (.con (.bl false))))] []), (.iff (.or (.not (.isi (.idx (.var 0) (.con (.int (1)))) .tup)) (.cmp .ne (.comp (.con (.int (1))) (.nm 1) (.idx (.var 0) (.con (.int (1)))) (some (.not (.call 7 [(.var 1)]))) [1]) (.lst []))) [(.ret (some (.con (.bl false))))] []), (.iff (.and (.cmp .nisn (.idx (.var 0) (.con (.int (2)))) (.con (.non))) (.not (.call 1 [(.idx (.var 0) (.con (.int (2)))), (.con (.int (0))), (.glo 2)]))) [(.ret (some (.con (.bl false))))] []), (.ret (some (.and (.call 1 [(.idx (.var 0) (.con (.int (3)))), (.con (.int (1))), (.glo 1)]) (.call 1 [(.idx (.var 0) (.con (.int (4)))), (.con (.int (0))), (.glo 0)]))))]⟩
/-- block_stop -/
def f10 : FD := ⟨"block_stop", 1, 1, [(.ret (some (.bin .add (.idx (.var 0) (.con (.int (0)))) (.blt .len [(.idx (.var 0) (.con (.int (1))))]))))]⟩
/-- held_stop -/
def f11 : FD := ⟨"held_stop", 1, 1, [(.ret (some (.ife (.cmp .eq (.idx (.var 0) (.con (.int (1)))) (.tup [])) (.idx (.var 0) (.con (.int (0)))) (.call 10 [(.idx (.idx (.var 0) (.con (.int (1)))) (.neg (.con (.int (1)))))]))))]⟩
/-- inbox_fault -/
def f12 : FD := ⟨"inbox_fault", 1, 8, [(.iff (.not (.call 9 [(.var 0)])) [(.ret (some (.con (.str "form"))))] []), (.asg (.tp [(.nm 1), (.nm 2), (.nm 3), (.nm 4), (.nm 5)]) (.var 0)), (.asg (.nm 6) (.var 1)), (.forr (.nm 7) (.var 2) [(.iff (.or (.cmp .lt (.idx (.var 7) (.con (.int (0)))) (.var 6)) (.cmp .gt (.call 10 [(.var 7)]) (.var 5))) [(.ret (some (.con (.str "held"))))] []), (.asg (.nm 6) (.bin .add (.call 10 [(.var 7)]) (.con (.int (1)))))]), (.iff (.and (.cmp .nisn (.var 3) (.con (.non))) (.not (.chn .le .le (.call 11 [(.var 0)]) (.var 3) (.var 5)))) [(.ret (some (.con (.str "end"))))] []), (.ret (some (.ife (.chn .le .le (.var 1) (.var 5) (.bin .add (.var 1) (.var 4))) (.con (.non)) (.con (.str "room")))))]⟩
/-- need_inbox -/
def f13 : FD := ⟨"need_inbox", 1, 2, [(.asg (.nm 1) (.call 12 [(.var 0)])), (.iff (.cmp .nisn (.var 1) (.con (.non))) [(.rai 5 [(.var 1)])] []), (.ret (some (.var 0)))]⟩
/-- is_unlike -/
def f14 : FD := ⟨"is_unlike", 3, 5, [(.par [(3, false), (4, false)] [(.blt .max [(.idx (.var 0) (.con (.int (0)))), (.var 1)]), (.blt .min [(.call 10 [(.var 0)]), (.bin .add (.var 1) (.blt .len [(.var 2)]))])]), (.iff (.cmp .ge (.var 3) (.var 4)) [(.ret (some (.con (.bl false))))] []), (.ret (some (.cmp .ne (.slc (.idx (.var 0) (.con (.int (1)))) (some (.bin .sub (.var 3) (.idx (.var 0) (.con (.int (0)))))) (some (.bin .sub (.var 4) (.idx (.var 0) (.con (.int (0))))))) (.slc (.var 2) (some (.bin .sub (.var 3) (.var 1))) (some (.bin .sub (.var 4) (.var 1)))))))]⟩
/-- piece_fault -/
def f15 : FD := ⟨"piece_fault", 2, 8, [(.asg (.tp [(.nm 2), (.nm 3), (.nm 4)]) (.var 1)), (.par [(5, false), (6, false)] [(.bin .add (.var 2) (.blt .len [(.var 3)])), (.idx (.var 0) (.con (.int (2))))]), (.iff (.cmp .gt (.var 5) (.idx (.var 0) (.con (.int (4))))) [(.ret (some (.con (.str "beyond"))))] []), (.iff (.and (.cmp .nisn (.var 6) (.con (.non))) (.or (.and (.cmp .ne (.var 3) (.tup [])) (.cmp .gt (.var 5) (.var 6))) (.and (.var 4) (.cmp .ne (.var 5) (.var 6))))) [(.ret (some (.con (.str "end"))))] []), (.iff (.and (.cmp .isn (.var 6) (.con (.non))) (.and (.var 4) (.cmp .lt (.var 5) (.call 11 [(.var 0)])))) [(.ret (some (.con (.str "end"))))] []), (.ret (some (.ife (.cmp .ne (.comp (.con (.int (1))) (.nm 7) (.idx (.var 0) (.con (.int (1)))) (some (.call 14 [(.var 7), (.var 2), (.var 3)])) [7]) (.lst [])) (.con (.str "unlike")) (.con (.non)))))]⟩
/-- put_together -/
def f16 : FD := ⟨"put_together", 1, 6, [(.oasg 1 (.lst [])), (.forr (.tp [(.nm 2), (.nm 3)]) (.var 0) [(.iff (.and (.cmp .ne (.own 1) (.lst [])) (.cmp .le (.var 2) (.call 10 [(.idx (.own 1) (.neg (.con (.int (1)))))]))) [(.opo (.tp [(.nm 4), (.nm 5)]) 1), (.oap 1 (.tup [(.var 4), (.bin .add (.var 5) (.slc (.var 3) (some (.bin .sub (.bin .add (.var 4) (.blt .len [(.var 5)])) (.var 2))) none))]))] [(.oap 1 (.tup [(.var 2), (.var 3)]))])]), (.ret (some (.blt .tuple [(.own 1)])))]⟩
/-- in_put -/
def f17 : FD := ⟨"in_put", 2, 2, [(.expr (.call 13 [(.var 0)])), (.expr (.call 5 [(.var 1)])), (.ret (some (.call 18 [(.var 0), (.var 1)])))]⟩
/-- in_put_at -/
def f18 : FD := ⟨"in_put_at", 2, 13, [(.asg (.tp [(.nm 2), (.nm 3), (.nm 4), (.nm 5), (.nm 6)]) (.var 0)), (.asg (.nm 7) (.call 15 [(.var 0), (.var 1)])), (.iff (.cmp .nisn (.var 7) (.con (.non))) [(.rai 3 [(.var 7)])] []), (.asg (.tp [(.nm 8), (.nm 9), (.nm 10)]) (.var 1)), (.asg (.nm 11) (.slc (.var 9) (some (.blt .max [(.con (.int (0))), (.bin .sub (.var 2) (.var 8))])) none)), (.asg (.nm 12) (.ife (.cmp .eq (.var 11) (.tup [])) (.var 3) (.call 16 [(.blt .sorted [(.bin .add (.var 3) (.tup [(.tup [(.blt .max [(.var 2), (.var 8)]), (.var 11)])]))])]))), (.ret (some (.tup [(.var 2), (.var 12), (.ife (.var 10) (.bin .add (.var 8) (.blt .len [(.var 9)])) (.var 4)), (.var 5), (.var 6)])))]⟩
/-- in_readable -/
def f19 : FD := ⟨"in_readable", 1, 1, [(.ret (some (.call 20 [(.call 13 [(.var 0)])])))]⟩
/-- in_readable_at -/
def f20 : FD := ⟨"in_readable_at", 1, 6, [(.asg (.tp [(.nm 1), (.nm 2), (.nm 3), (.nm 4), (.nm 5)]) (.var 0)), (.ret (some (.ife (.and (.cmp .ne (.var 2) (.tup [])) (.cmp .eq (.idx (.idx (.var 2) (.con (.int (0)))) (.con (.int (0)))) (.var 1))) (.blt .len [(.idx (.idx (.var 2) (.con (.int (0)))) (.con (.int (1))))]) (.con (.int (0))))))]⟩
/-- in_have -/
def f21 : FD := ⟨"in_have", 1, 1, [(.ret (some (.call 22 [(.call 13 [(.var 0)])])))]⟩
/-- in_have_at -/
def f22 : FD := ⟨"in_have_at", 1, 2, [(.asg (.nm 1) (.bin .add (.idx (.var 0) (.con (.int (0)))) (.call 20 [(.var 0)]))), (.ret (some (.ife (.cmp .eq (.idx (.var 0) (.con (.int (2)))) (.var 1)) (.bin .add (.var 1) (.con (.int (1)))) (.var 1))))]⟩
/-- in_read -/
def f23 : FD := ⟨"in_read", 2, 2, [(.expr (.call 13 [(.var 0)])), (.expr (.call 2 [(.var 1), (.con (.int (0))), (.glo 1)])), (.ret (some (.call 24 [(.var 0), (.var 1)])))]⟩
/-- in_read_at -/
def f24 : FD := ⟨"in_read_at", 2, 11, [(.asg (.tp [(.nm 2), (.nm 3), (.nm 4), (.nm 5), (.nm 6)]) (.var 0)), (.asg (.nm 7) (.blt .min [(.var 1), (.call 20 [(.var 0)])])), (.iff (.cmp .eq (.var 7) (.con (.int (0)))) [(.ret (some (.tup [(.var 0), (.tup []), (.cmp .eq (.var 4) (.var 2))])))] []), (.par [(8, false), (9, false)] [(.slc (.idx (.idx (.var 3) (.con (.int (0)))) (.con (.int (1)))) none (some (.var 7))), (.slc (.idx (.idx (.var 3) (.con (.int (0)))) (.con (.int (1)))) (some (.var 7)) none)]), (.asg (.nm 10) (.ife (.cmp .eq (.var 9) (.tup [])) (.slc (.var 3) (some (.con (.int (1)))) none) (.bin .add (.tup [(.tup [(.bin .add (.var 2) (.var 7)), (.var 9)])]) (.slc (.var 3) (some (.con (.int (1)))) none)))), (.ret (some (.tup [(.tup [(.bin .add (.var 2) (.var 7)), (.var 10), (.var 4), (.var 5), (.var 6)]), (.var 8), (.cmp .eq (.var 4) (.bin .add (.var 2) (.var 7)))])))]⟩
/-- in_limit_at -/
def f25 : FD := ⟨"in_limit_at", 1, 1, [(.ret (some (.blt .min [(.bin .add (.idx (.var 0) (.con (.int (0)))) (.idx (.var 0) (.con (.int (3))))), (.glo 0)])))]⟩
/-- in_grant -/
def f26 : FD := ⟨"in_grant", 1, 1, [(.ret (some (.call 27 [(.call 13 [(.var 0)])])))]⟩
/-- in_grant_at -/
def f27 : FD := ⟨"in_grant_at", 1, 2, [(.asg (.nm 1) (.call 25 [(.var 0)])), (.ret (some (.tup [(.bin .add (.slc (.var 0) none (some (.con (.int (4))))) (.tup [(.var 1)])), (.var 1)])))]⟩
/-- need_side -/
def f28 : FD := ⟨"need_side", 1, 1, [(.iff (.not (.call 1 [(.var 0), (.con (.int (0))), (.con (.int (1)))])) [(.rai 8 [(.var 0)])] []), (.ret (some (.var 0)))]⟩
/-- is_kind -/
def f29 : FD := ⟨"is_kind", 2, 2, [(.ret (some (.and (.call 1 [(.var 0), (.con (.int (1))), (.glo 3)]) (.cmp .eq (.bin .mod (.var 0) (.con (.int (2)))) (.bin .sub (.con (.int (1))) (.var 1))))))]⟩
/-- is_life -/
def f30 : FD := ⟨"is_life", 2, 2, [(.ret (some (.call 29 [(.var 0), (.call 28 [(.var 1)])])))]⟩
/-- need_life -/
def f31 : FD := ⟨"need_life", 2, 2, [(.iff (.not (.call 30 [(.var 0), (.var 1)])) [(.rai 7 [(.var 0)])] []), (.ret (some (.var 0)))]⟩
/-- link_begun -/
def f32 : FD := ⟨"link_begun", 2, 2, [(.expr (.call 31 [(.var 1), (.var 0)])), (.ret (some (.tup [(.var 0), (.var 1), (.con (.int (0))), (.con (.str "new"))])))]⟩
/-- takes_from -/
def f33 : FD := ⟨"takes_from", 3, 3, [(.ret (some (.and (.cmp .eq (.idx (.var 0) (.con (.int (3)))) (.con (.str "sure"))) (.and (.cmp .eq (.var 1) (.idx (.var 0) (.con (.int (2))))) (.cmp .eq (.var 2) (.idx (.var 0) (.con (.int (1)))))))))]⟩
/-- is_range -/
def f34 : FD := ⟨"is_range", 1, 3, [(.iff (.or (.not (.isi (.var 0) .tup)) (.cmp .ne (.blt .len [(.var 0)]) (.con (.int (2))))) [(.ret (some (.con (.bl false))))] []), (.asg (.tp [(.nm 1), (.nm 2)]) (.var 0)), (.ret (some (.and (.call 1 [(.var 1), (.con (.int (0))), (.glo 0)]) (.and (.call 1 [(.var 2), (.con (.int (0))), (.glo 0)]) (.cmp .lt (.var 1) (.var 2))))))]⟩
/-- need_ranges -/
def f35 : FD := ⟨"need_ranges", 1, 4, [(.iff (.or (.not (.isi (.var 0) .tup)) (.cmp .gt (.blt .len [(.var 0)]) (.glo 4))) [(.rai 2 [(.con (.non))])] []), (.asg (.nm 1) (.neg (.con (.int (1))))), (.forr (.tp [(.nm 2), (.nm 3)]) (.enu (.var 0) none) [(.iff (.or (.not (.call 34 [(.var 3)])) (.cmp .le (.idx (.var 3) (.con (.int (0)))) (.var 1))) [(.rai 2 [(.var 2)])] []), (.asg (.nm 1) (.idx (.var 3) (.con (.int (1)))))]), (.ret (some (.var 0)))]⟩
/-- is_ranges -/
def f36 : FD := ⟨"is_ranges", 1, 1, [(.tri [(.expr (.call 35 [(.var 0)]))] [.hdl [2] none [(.ret (some (.con (.bl false))))]]), (.ret (some (.con (.bl true))))]⟩
/-- bounded -/
def f37 : FD := ⟨"bounded", 1, 1, [(.iff (.cmp .gt (.blt .len [(.var 0)]) (.glo 4)) [(.rai 11 [(.glo 4)])] []), (.ret (some (.blt .tuple [(.var 0)])))]⟩
/-- one_range -/
def f38 : FD := ⟨"one_range", 2, 2, [(.ret (some (.ife (.cmp .lt (.var 0) (.var 1)) (.tup [(.tup [(.var 0), (.var 1)])]) (.tup []))))]⟩
/-- merged -/
def f39 : FD := ⟨"merged", 1, 6, [(.oasg 1 (.lst [])), (.forr (.tp [(.nm 2), (.nm 3)]) (.var 0) [(.iff (.and (.cmp .ne (.own 1) (.lst [])) (.cmp .le (.var 2) (.idx (.idx (.own 1) (.neg (.con (.int (1))))) (.con (.int (1)))))) [(.opo (.tp [(.nm 4), (.nm 5)]) 1), (.oap 1 (.tup [(.var 4), (.blt .max [(.var 5), (.var 3)])]))] [(.oap 1 (.tup [(.var 2), (.var 3)]))])]), (.ret (some (.own 1)))]⟩
/-- has -/
def f40 : FD := ⟨"has", 2, 4, [(.expr (.call 35 [(.var 0)])), (.expr (.call 2 [(.var 1), (.con (.int (0))), (.glo 0)])), (.forr (.tp [(.nm 2), (.nm 3)]) (.var 0) [(.iff (.chn .le .lt (.var 2) (.var 1) (.var 3)) [(.ret (some (.con (.bl true))))] [])]), (.ret (some (.con (.bl false))))]⟩
/-- joined -/
def f41 : FD := ⟨"joined", 2, 2, [(.expr (.call 35 [(.var 0)])), (.expr (.call 35 [(.var 1)])), (.ret (some (.call 37 [(.call 39 [(.blt .sorted [(.bin .add (.var 0) (.var 1))])])])))]⟩
/-- common_rows -/
def f42 : FD := ⟨"common_rows", 2, 7, [(.par [(2, true), (3, false), (4, false)] [(.lst []), (.con (.int (0))), (.con (.int (0)))]), (.whl (.and (.cmp .lt (.var 3) (.blt .len [(.var 0)])) (.cmp .lt (.var 4) (.blt .len [(.var 1)]))) [(.asg (.nm 5) (.blt .max [(.idx (.idx (.var 0) (.var 3)) (.con (.int (0)))), (.idx (.idx (.var 1) (.var 4)) (.con (.int (0))))])), (.asg (.nm 6) (.blt .min [(.idx (.idx (.var 0) (.var 3)) (.con (.int (1)))), (.idx (.idx (.var 1) (.var 4)) (.con (.int (1))))])), (.iff (.cmp .lt (.var 5) (.var 6)) [(.oap 2 (.tup [(.var 5), (.var 6)]))] []), (.iff (.cmp .lt (.idx (.idx (.var 0) (.var 3)) (.con (.int (1)))) (.idx (.idx (.var 1) (.var 4)) (.con (.int (1))))) [(.aug 3 .add (.con (.int (1))))] [(.aug 4 .add (.con (.int (1))))])]), (.ret (some (.own 2)))]⟩
/-- met -/
def f43 : FD := ⟨"met", 2, 2, [(.expr (.call 35 [(.var 0)])), (.expr (.call 35 [(.var 1)])), (.ret (some (.call 37 [(.call 42 [(.var 0), (.var 1)])])))]⟩
/-- hole_rows -/
def f44 : FD := ⟨"hole_rows", 3, 7, [(.par [(3, true), (4, false)] [(.lst []), (.var 1)]), (.forr (.tp [(.nm 5), (.nm 6)]) (.var 0) [(.iff (.cmp .ge (.var 5) (.var 2)) [.brk] []), (.iff (.cmp .gt (.var 5) (.var 4)) [(.oap 3 (.tup [(.var 4), (.var 5)]))] []), (.asg (.nm 4) (.blt .max [(.var 4), (.var 6)]))]), (.iff (.cmp .lt (.var 4) (.var 2)) [(.oap 3 (.tup [(.var 4), (.var 2)]))] []), (.ret (some (.own 3)))]⟩
/-- less -/
def f45 : FD := ⟨"less", 2, 2, [(.expr (.call 35 [(.var 0)])), (.expr (.call 35 [(.var 1)])), (.iff (.cmp .eq (.var 0) (.tup [])) [(.ret (some (.tup [])))] []), (.ret (some (.call 37 [(.call 42 [(.var 0), (.call 44 [(.var 1), (.con (.int (0))), (.idx (.idx (.var 0) (.neg (.con (.int (1))))) (.con (.int (1))))])])])))]⟩
/-- holes -/
def f46 : FD := ⟨"holes", 3, 3, [(.expr (.call 35 [(.var 0)])), (.expr (.call 2 [(.var 1), (.con (.int (0))), (.glo 0)])), (.expr (.call 2 [(.var 2), (.var 1), (.glo 0)])), (.ret (some (.call 37 [(.call 44 [(.var 0), (.var 1), (.var 2)])])))]⟩
/-- first_hole -/
def f47 : FD := ⟨"first_hole", 2, 4, [(.expr (.call 35 [(.var 0)])), (.expr (.call 2 [(.var 1), (.con (.int (0))), (.glo 0)])), (.forr (.tp [(.nm 2), (.nm 3)]) (.var 0) [(.iff (.chn .le .lt (.var 2) (.var 1) (.var 3)) [(.ret (some (.var 3)))] [])]), (.ret (some (.var 1)))]⟩
/-- outbox_new -/
def f48 : FD := ⟨"outbox_new", 1, 1, [(.ret (some (.tup [(.con (.int (0))), (.tup []), (.con (.bl false)), (.con (.int (0))), (.tup []), (.tup []), (.call 2 [(.var 0), (.con (.int (0))), (.glo 0)])])))]⟩
/-- has_form_outboxes -/
def f49 : FD := ⟨"has_form_outboxes", 1, 1, [(.iff (.or (.not (.isi (.var 0) .tup)) (.or (.cmp .ne (.blt .len [(.var 0)]) (.con (.int (7)))) (.not (.isi (.idx (.var 0) (.con (.int (2)))) .bool)))) [(.ret (some (.con (.bl false))))] []), (.iff (.or (.not (.call 1 [(.idx (.var 0) (.con (.int (0)))), (.con (.int (0))), (.glo 2)])) (.not (.call 3 [(.idx (.var 0) (.con (.int (1)))), (.glo 1)]))) [(.ret (some (.con (.bl false))))] []), (.iff (.or (.cmp .gt (.bin .add (.idx (.var 0) (.con (.int (0)))) (.blt .len [(.idx (.var 0) (.con (.int (1))))])) (.glo 2)) (.not (.call 1 [(.idx (.var 0) (.con (.int (3)))), (.con (.int (0))), (.glo 0)]))) [(.ret (some (.con (.bl false))))] []), (.ret (some (.and (.call 36 [(.idx (.var 0) (.con (.int (4))))]) (.and (.call 36 [(.idx (.var 0) (.con (.int (5))))]) (.call 1 [(.idx (.var 0) (.con (.int (6)))), (.con (.int (0))), (.glo 0)])))))]⟩
/-- length_of -/
def f50 : FD := ⟨"length_of", 1, 1, [(.ret (some (.bin .add (.idx (.var 0) (.con (.int (0)))) (.blt .len [(.idx (.var 0) (.con (.int (1))))]))))]⟩
/-- lie_within -/
def f51 : FD := ⟨"lie_within", 3, 3, [(.ret (some (.or (.cmp .eq (.var 0) (.tup [])) (.and (.cmp .ge (.idx (.idx (.var 0) (.con (.int (0)))) (.con (.int (0)))) (.var 1)) (.cmp .le (.idx (.idx (.var 0) (.neg (.con (.int (1))))) (.con (.int (1)))) (.var 2))))))]⟩
/-- outbox_fault -/
def f52 : FD := ⟨"outbox_fault", 1, 9, [(.iff (.not (.call 49 [(.var 0)])) [(.ret (some (.con (.str "form"))))] []), (.asg (.tp [(.nm 1), (.nm 2), (.nm 3), (.nm 4), (.nm 5), (.nm 6), (.nm 7)]) (.var 0)), (.asg (.nm 8) (.bin .add (.var 1) (.blt .len [(.var 2)]))), (.iff (.not (.chn .le .le (.var 1) (.var 4) (.bin .add (.var 8) (.ife (.var 3) (.con (.int (1))) (.con (.int (0))))))) [(.ret (some (.con (.str "places"))))] []), (.iff (.or (.not (.call 51 [(.var 5), (.var 1), (.var 4)])) (.and (.cmp .lt (.var 1) (.var 8)) (.call 40 [(.var 5), (.var 1)]))) [(.ret (some (.con (.str "acked"))))] []), (.iff (.or (.not (.call 51 [(.var 6), (.var 1), (.var 4)])) (.cmp .ne (.call 43 [(.var 5), (.var 6)]) (.tup []))) [(.ret (some (.con (.str "lost"))))] []), (.ret (some (.ife (.cmp .le (.blt .min [(.var 4), (.var 8)]) (.var 7)) (.con (.non)) (.con (.str "limit")))))]⟩
/-- need_outbox -/
def f53 : FD := ⟨"need_outbox", 1, 2, [(.asg (.nm 1) (.call 52 [(.var 0)])), (.iff (.cmp .nisn (.var 1) (.con (.non))) [(.rai 4 [(.var 1)])] []), (.ret (some (.var 0)))]⟩
/-- out_put -/
def f54 : FD := ⟨"out_put", 2, 9, [(.asg (.tp [(.nm 2), (.nm 3), (.nm 4), (.nm 5), (.nm 6), (.nm 7), (.nm 8)]) (.call 53 [(.var 0)])), (.iff (.not (.call 3 [(.var 1), (.glo 1)])) [(.rai 0 [(.call 55 [(.var 1)])])] []), (.iff (.var 4) [(.rai 6 [(.con (.non))])] []), (.iff (.cmp .gt (.bin .add (.bin .add (.var 2) (.blt .len [(.var 3)])) (.blt .len [(.var 1)])) (.glo 2)) [(.rai 11 [(.glo 0)])] []), (.iff (.cmp .gt (.bin .add (.blt .len [(.var 3)]) (.blt .len [(.var 1)])) (.glo 1)) [(.rai 11 [(.glo 1)])] []), (.ret (some (.tup [(.var 2), (.bin .add (.var 3) (.var 1)), (.con (.bl false)), (.var 5), (.var 6), (.var 7), (.var 8)])))]⟩
/-- wrong_place -/
def f55 : FD := ⟨"wrong_place", 1, 3, [(.iff (.or (.not (.isi (.var 0) .tup)) (.cmp .gt (.blt .len [(.var 0)]) (.glo 1))) [(.ret (some (.con (.non))))] []), (.ret (some (.idx (.comp (.var 1) (.tp [(.nm 1), (.nm 2)]) (.enu (.var 0) none) (some (.not (.call 1 [(.var 2), (.con (.int (0))), (.con (.int (255)))]))) [1, 2]) (.con (.int (0))))))]⟩
/-- out_finish -/
def f56 : FD := ⟨"out_finish", 1, 8, [(.asg (.tp [(.nm 1), (.nm 2), (.nm 3), (.nm 4), (.nm 5), (.nm 6), (.nm 7)]) (.call 53 [(.var 0)])), (.ret (some (.tup [(.var 1), (.var 2), (.con (.bl true)), (.var 4), (.var 5), (.var 6), (.var 7)])))]⟩
/-- new_stop -/
def f57 : FD := ⟨"new_stop", 2, 6, [(.par [(2, false), (3, false), (4, false)] [(.idx (.var 0) (.con (.int (3)))), (.idx (.var 0) (.con (.int (6)))), (.call 50 [(.var 0)])]), (.asg (.nm 5) (.blt .min [(.var 4), (.var 3), (.bin .add (.var 2) (.var 1))])), (.iff (.and (.idx (.var 0) (.con (.int (2)))) (.and (.cmp .eq (.var 5) (.var 4)) (.cmp .gt (.bin .add (.var 2) (.var 1)) (.var 4)))) [(.ret (some (.bin .add (.var 4) (.con (.int (1))))))] []), (.ret (some (.var 5)))]⟩
/-- next_places -/
def f58 : FD := ⟨"next_places", 2, 4, [(.iff (.cmp .ne (.idx (.var 0) (.con (.int (5)))) (.tup [])) [(.asg (.tp [(.nm 2), (.nm 3)]) (.idx (.idx (.var 0) (.con (.int (5)))) (.con (.int (0))))), (.ret (some (.tup [(.var 2), (.blt .min [(.var 3), (.bin .add (.var 2) (.var 1))])])))] []), (.ret (some (.tup [(.idx (.var 0) (.con (.int (3)))), (.blt .max [(.idx (.var 0) (.con (.int (3)))), (.call 57 [(.var 0), (.var 1)])])])))]⟩
/-- out_take -/
def f59 : FD := ⟨"out_take", 2, 2, [(.expr (.call 53 [(.var 0)])), (.expr (.call 2 [(.var 1), (.con (.int (1))), (.glo 1)])), (.ret (some (.call 60 [(.var 0), (.var 1)])))]⟩
/-- out_take_at -/
def f60 : FD := ⟨"out_take_at", 2, 14, [(.asg (.tp [(.nm 2), (.nm 3), (.nm 4), (.nm 5), (.nm 6), (.nm 7), (.nm 8)]) (.var 0)), (.asg (.tp [(.nm 9), (.nm 10)]) (.call 58 [(.var 0), (.var 1)])), (.iff (.cmp .eq (.var 9) (.var 10)) [(.ret (some (.tup [(.var 0), (.con (.non))])))] []), (.asg (.nm 11) (.blt .min [(.var 10), (.call 50 [(.var 0)])])), (.asg (.nm 12) (.tup [(.var 9), (.slc (.var 3) (some (.bin .sub (.var 9) (.var 2))) (some (.bin .sub (.var 11) (.var 2)))), (.cmp .gt (.var 10) (.var 11))])), (.asg (.nm 13) (.call 45 [(.var 7), (.call 38 [(.var 9), (.var 10)])])), (.ret (some (.tup [(.tup [(.var 2), (.var 3), (.var 4), (.blt .max [(.var 5), (.var 10)]), (.var 6), (.var 13), (.var 8)]), (.var 12)])))]⟩
/-- settled -/
def f61 : FD := ⟨"settled", 1, 9, [(.asg (.tp [(.nm 1), (.nm 2), (.nm 3), (.nm 4), (.nm 5), (.nm 6), (.nm 7)]) (.var 0)), (.asg (.nm 8) (.blt .min [(.call 47 [(.var 5), (.var 1)]), (.call 50 [(.var 0)])])), (.ret (some (.tup [(.var 8), (.slc (.var 2) (some (.bin .sub (.var 8) (.var 1))) none), (.var 3), (.var 4), (.call 43 [(.var 5), (.call 38 [(.var 8), (.var 4)])]), (.var 6), (.var 7)])))]⟩
/-- need_places -/
def f62 : FD := ⟨"need_places", 3, 3, [(.expr (.call 2 [(.var 1), (.con (.int (0))), (.bin .sub (.idx (.var 0) (.con (.int (3)))) (.con (.int (1))))])), (.expr (.call 2 [(.var 2), (.bin .add (.var 1) (.con (.int (1)))), (.idx (.var 0) (.con (.int (3))))]))]⟩
/-- out_acked_at -/
def f63 : FD := ⟨"out_acked_at", 3, 11, [(.asg (.tp [(.nm 3), (.nm 4), (.nm 5), (.nm 6), (.nm 7), (.nm 8), (.nm 9)]) (.var 0)), (.asg (.nm 10) (.call 38 [(.blt .max [(.var 1), (.var 3)]), (.var 2)])), (.ret (some (.call 61 [(.tup [(.var 3), (.var 4), (.var 5), (.var 6), (.call 41 [(.var 7), (.var 10)]), (.call 45 [(.var 8), (.var 10)]), (.var 9)])])))]⟩
/-- out_had -/
def f64 : FD := ⟨"out_had", 2, 2, [(.expr (.call 53 [(.var 0)])), (.expr (.call 2 [(.var 1), (.con (.int (0))), (.idx (.var 0) (.con (.int (3))))])), (.ret (some (.call 65 [(.var 0), (.var 1)])))]⟩
/-- out_had_at -/
def f65 : FD := ⟨"out_had_at", 2, 2, [(.ret (some (.ife (.cmp .le (.var 1) (.idx (.var 0) (.con (.int (0))))) (.var 0) (.call 63 [(.var 0), (.idx (.var 0) (.con (.int (0)))), (.var 1)]))))]⟩
/-- out_lost -/
def f66 : FD := ⟨"out_lost", 3, 3, [(.expr (.call 53 [(.var 0)])), (.expr (.call 62 [(.var 0), (.var 1), (.var 2)])), (.ret (some (.call 67 [(.var 0), (.var 1), (.var 2)])))]⟩
/-- out_lost_at -/
def f67 : FD := ⟨"out_lost_at", 3, 11, [(.asg (.tp [(.nm 3), (.nm 4), (.nm 5), (.nm 6), (.nm 7), (.nm 8), (.nm 9)]) (.var 0)), (.asg (.nm 10) (.call 45 [(.call 38 [(.blt .max [(.var 1), (.var 3)]), (.var 2)]), (.var 7)])), (.ret (some (.tup [(.var 3), (.var 4), (.var 5), (.var 6), (.var 7), (.call 41 [(.var 8), (.var 10)]), (.var 9)])))]⟩
/-- out_roomed -/
def f68 : FD := ⟨"out_roomed", 2, 2, [(.expr (.call 53 [(.var 0)])), (.expr (.call 2 [(.var 1), (.con (.int (0))), (.glo 0)])), (.ret (some (.call 69 [(.var 0), (.var 1)])))]⟩
/-- out_roomed_at -/
def f69 : FD := ⟨"out_roomed_at", 2, 2, [(.ret (some (.bin .add (.slc (.var 0) none (some (.con (.int (6))))) (.tup [(.blt .max [(.idx (.var 0) (.con (.int (6)))), (.var 1)])]))))]⟩
/-- out_under -/
def f70 : FD := ⟨"out_under", 1, 1, [(.expr (.call 53 [(.var 0)])), (.ret (some (.call 46 [(.call 41 [(.idx (.var 0) (.con (.int (4)))), (.idx (.var 0) (.con (.int (5))))]), (.idx (.var 0) (.con (.int (0)))), (.idx (.var 0) (.con (.int (3))))])))]⟩
/-- had_until -/
def f71 : FD := ⟨"had_until", 2, 4, [(.asg (.nm 2) (.blt .max [(.var 1), (.call 21 [(.var 0)])])), (.forr (.nm 3) (.idx (.var 0) (.con (.int (1)))) [(.iff (.chn .le .lt (.idx (.var 3) (.con (.int (0)))) (.var 2) (.bin .add (.idx (.var 3) (.con (.int (0)))) (.blt .len [(.idx (.var 3) (.con (.int (1))))]))) [(.asg (.nm 2) (.bin .add (.idx (.var 3) (.con (.int (0)))) (.blt .len [(.idx (.var 3) (.con (.int (1))))])))] [])]), (.ret (some (.ife (.cmp .eq (.var 2) (.idx (.var 0) (.con (.int (2))))) (.bin .add (.var 2) (.con (.int (1)))) (.var 2))))]⟩
/-- need_bound -/
def f72 : FD := ⟨"need_bound", 1, 2, [(.iff (.or (.not (.isi (.var 0) .tup)) (.or (.cmp .ne (.blt .len [(.var 0)]) (.con (.int (2)))) (.not (.blt .all [(.comp (.call 1 [(.var 1), (.con (.int (1))), (.glo 5)]) (.nm 1) (.var 0) none [1])])))) [(.rai 10 [(.var 0)])] []), (.ret (some (.var 0)))]⟩
/-- has_life_left -/
def f73 : FD := ⟨"has_life_left", 2, 2, [(.ret (some (.cmp .lt (.bin .fdiv (.bin .sub (.bin .add (.idx (.var 0) (.con (.int (1)))) (.con (.int (1)))) (.idx (.var 0) (.con (.int (0))))) (.con (.int (2)))) (.idx (.var 1) (.idx (.var 0) (.con (.int (0))))))))]⟩
/-- put_in -/
def f74 : FD := ⟨"put_in", 2, 2, [(.ret (some (.ife (.cmp .mem (.var 1) (.var 0)) (.var 0) (.blt .tuple [(.blt .sorted [(.bin .add (.var 0) (.tup [(.var 1)]))])]))))]⟩
/-- heard_without -/
def f75 : FD := ⟨"heard_without", 4, 9, [(.asg (.tp [(.nm 4), (.nm 5), (.nm 6), (.nm 7)]) (.var 1)), (.iff (.and (.cmp .lt (.var 2) (.var 6)) (.cmp .ne (.var 0) (.con (.str "older")))) [(.ret (some (.var 1)))] []), (.iff (.and (.cmp .ne (.var 2) (.var 6)) (.and (.cmp .eq (.var 7) (.con (.str "sure"))) (.cmp .ne (.var 0) (.con (.str "peer"))))) [(.ret (some (.con (.non))))] []), (.asg (.nm 8) (.or (.cmp .eq (.var 7) (.con (.str "sure"))) (.or (.cmp .eq (.var 3) (.var 5)) (.cmp .eq (.var 0) (.con (.str "to")))))), (.ret (some (.tup [(.var 4), (.var 5), (.var 2), (.ife (.var 8) (.con (.str "sure")) (.con (.str "new")))])))]⟩
/-- sure_behind -/
def f76 : FD := ⟨"sure_behind", 2, 2, [(.ret (some (.ife (.cmp .eq (.idx (.var 1) (.con (.int (3)))) (.con (.str "sure"))) (.call 74 [(.var 0), (.tup [(.idx (.var 1) (.con (.int (1)))), (.idx (.var 1) (.con (.int (2))))])]) (.var 0))))]⟩
/-- next_link -/
def f77 : FD := ⟨"next_link", 3, 4, [(.asg (.nm 3) (.ife (.and (.cmp .eq (.var 2) (.con (.str "count"))) (.cmp .eq (.var 1) (.con (.int (0))))) (.idx (.var 0) (.con (.int (1)))) (.bin .add (.idx (.var 0) (.con (.int (1)))) (.con (.int (2)))))), (.ret (some (.tup [(.idx (.var 0) (.con (.int (0)))), (.var 3), (.var 1), (.con (.str "new"))])))]⟩
/-- link_fault_of -/
def f78 : FD := ⟨"link_fault_of", 3, 10, [(.forr (.nm 3) (.tup [(.con (.int (0))), (.con (.int (1)))]) [(.asg (.tp [(.nm 4), (.nm 5), (.nm 6)]) (.slc (.idx (.var 0) (.var 3)) (some (.con (.int (1)))) none)), (.iff (.and (.cmp .ne (.var 5) (.con (.int (0)))) (.not (.blt .any [(.comp (.cmp .eq (.idx (.var 9) (.con (.int (0)))) (.var 5)) (.nm 9) (.idx (.var 1) (.bin .sub (.con (.int (1))) (.var 3))) none [9])]))) [(.ret (some (.con (.int (1)))))] []), (.iff (.and (.cmp .eq (.var 6) (.con (.str "sure"))) (.cmp .nmem (.tup [(.var 5), (.var 4)]) (.idx (.var 1) (.bin .sub (.con (.int (1))) (.var 3))))) [(.ret (some (.con (.int (2)))))] [])]), (.forr (.nm 3) (.tup [(.con (.int (0))), (.con (.int (1)))]) [(.par [(7, false), (8, false)] [(.idx (.var 0) (.var 3)), (.idx (.var 0) (.bin .sub (.con (.int (1))) (.var 3)))]), (.iff (.and (.cmp .eq (.idx (.var 7) (.con (.int (3)))) (.con (.str "sure"))) (.and (.cmp .eq (.idx (.var 8) (.con (.int (3)))) (.con (.str "sure"))) (.and (.cmp .eq (.idx (.var 7) (.con (.int (2)))) (.idx (.var 8) (.con (.int (1))))) (.cmp .lt (.idx (.var 8) (.con (.int (2)))) (.idx (.var 7) (.con (.int (1)))))))) [(.ret (some (.con (.int (3)))))] [])]), (.iff (.cmp .lt (.blt .len [(.dcm (.idx (.var 9) (.con (.int (0)))) (.con (.bl true)) (.nm 9) (.var 2) [9])]) (.blt .len [(.var 2)])) [(.ret (some (.con (.int (4)))))] []), (.forr (.nm 3) (.tup [(.con (.int (0))), (.con (.int (1)))]) [(.iff (.not (.blt .all [(.comp (.or (.cmp .eq (.idx (.var 9) (.con (.int (1)))) (.con (.int (0)))) (.blt .any [(.comp (.cmp .eq (.idx (.var 8) (.con (.int (0)))) (.idx (.var 9) (.con (.int (1))))) (.nm 8) (.idx (.var 1) (.bin .sub (.con (.int (1))) (.var 3))) none [8])])) (.nm 9) (.idx (.var 1) (.var 3)) none [9])])) [(.ret (some (.con (.int (5)))))] [])]), (.ret (some (.con (.non))))]⟩
/-- full_outbox -/
def f79 : FD := ⟨"full_outbox", 2, 3, [(.asg (.nm 2) (.call 56 [(.call 54 [(.call 48 [(.con (.int (0)))]), (.blt .tuple [.rng [(.var 0)]])])])), (.ret (some (.ife (.cmp .eq (.var 1) (.con (.str "limit"))) (.call 68 [(.var 2), (.var 0)]) (.var 2))))]⟩
/-- first_stream_world -/
def f80 : FD := ⟨"first_stream_world", 3, 3, [(.ret (some (.tup [(.call 32 [(.con (.int (0))), (.con (.int (1)))]), (.call 32 [(.con (.int (1))), (.con (.int (2)))]), (.call 79 [(.var 0), (.var 2)]), (.call 6 [(.var 1)]), (.tup []), (.tup []), (.tup []), (.tup []), (.tup [])])))]⟩
/-- letters_for -/
def f81 : FD := ⟨"letters_for", 2, 4, [(.ret (some (.bin .add (.comp (.bin .add (.tup [(.con (.str "greet"))]) (.var 2)) (.nm 2) (.idx (.var 0) (.bin .sub (.con (.int (5))) (.var 1))) none [2]) (.comp (.bin .add (.tup [(.con (.str "more"))]) (.var 3)) (.nm 3) (.idx (.var 0) (.bin .sub (.con (.int (7))) (.var 1))) none [3]))))]⟩
/-- changed -/
def f82 : FD := ⟨"changed", 2, 4, [(.ret (some (.blt .tuple [(.comp (.met .get (.var 1) [(.var 2), (.var 3)]) (.tp [(.nm 2), (.nm 3)]) (.enu (.var 0) none) none [2, 3])])))]⟩
/-- with_new_life -/
def f83 : FD := ⟨"with_new_life", 4, 8, [(.asg (.tp [(.nm 4), (.nm 5), (.nm 6)]) (.var 3)), (.asg (.nm 7) (.ife (.cmp .eq (.var 1) (.con (.int (0)))) (.call 79 [(.var 4), (.var 6)]) (.call 6 [(.var 5)]))), (.ret (some (.call 82 [(.var 0), (.dic [(.var 1), (.call 77 [(.idx (.var 0) (.var 1)), (.var 2), (.var 6)]), (.bin .add (.con (.int (2))) (.var 1)), (.var 7)])])))]⟩
/-- may_send -/
def f84 : FD := ⟨"may_send", 2, 2, [(.ret (some (.or (.cmp .eq (.idx (.var 0) (.con (.int (3)))) (.con (.str "sure"))) (.and (.cmp .eq (.var 1) (.con (.str "bare"))) (.cmp .gt (.idx (.var 0) (.con (.int (2)))) (.con (.int (0))))))))]⟩
/-- hearing_stream_deeds -/
def f85 : FD := ⟨"hearing_stream_deeds", 4, 7, [(.oasg 4 (.lst [])), (.forr (.tp [(.nm 5), (.nm 6)]) (.enu (.call 81 [(.var 0), (.var 1)]) none) [(.iff (.or (.cmp .nisn (.call 75 [(.var 3), (.idx (.var 0) (.var 1)), (.idx (.var 6) (.con (.int (1)))), (.idx (.var 6) (.con (.int (2))))]) (.con (.non))) (.call 73 [(.idx (.var 0) (.var 1)), (.var 2)])) [(.oap 4 (.tup [(.con (.str "hear")), (.var 1), (.var 5)]))] [])]), (.ret (some (.own 4)))]⟩
/-- stream_deeds -/
def f86 : FD := ⟨"stream_deeds", 3, 5, [(.oasg 3 (.lst [(.tup [(.con (.str "greet")), (.con (.int (0)))]), (.tup [(.con (.str "greet")), (.con (.int (1)))])])), (.iff (.and (.call 84 [(.idx (.var 0) (.con (.int (0)))), (.var 2)]) (.cmp .nisn (.idx (.call 59 [(.idx (.var 0) (.con (.int (2)))), (.con (.int (1)))]) (.con (.int (1)))) (.con (.non)))) [(.oap 3 (.tup [(.con (.str "take"))]))] []), (.iff (.cmp .ne (.call 70 [(.idx (.var 0) (.con (.int (2))))]) (.tup [])) [(.oap 3 (.tup [(.con (.str "lose"))]))] []), (.iff (.cmp .eq (.idx (.idx (.var 0) (.con (.int (1)))) (.con (.int (3)))) (.con (.str "sure"))) [(.oap 3 (.tup [(.con (.str "room"))]))] []), (.forr (.nm 4) (.tup [(.con (.int (0))), (.con (.int (1)))]) [(.oex 3 (.call 85 [(.var 0), (.var 4), (.var 1), (.var 2)]))]), (.iff (.cmp .gt (.call 19 [(.idx (.var 0) (.con (.int (3))))]) (.con (.int (0)))) [(.oap 3 (.tup [(.con (.str "read"))]))] []), (.forr (.nm 4) (.tup [(.con (.int (0))), (.con (.int (1)))]) [(.iff (.or (.cmp .eq (.var 2) (.con (.str "count"))) (.call 73 [(.idx (.var 0) (.var 4)), (.var 1)])) [(.oap 3 (.tup [(.con (.str "crash")), (.var 4)]))] [])]), (.ret (some (.own 3)))]⟩
/-- taken_world -/
def f87 : FD := ⟨"taken_world", 2, 8, [(.asg (.tp [(.nm 2), (.nm 3)]) (.call 59 [(.idx (.var 0) (.con (.int (2)))), (.con (.int (1)))])), (.asg (.tp [(.nm 4), (.nm 5), (.nm 6)]) (.var 3)), (.asg (.nm 7) (.and (.cmp .eq (.idx (.var 1) (.con (.int (2)))) (.con (.str "end"))) (.cmp .eq (.bin .add (.var 4) (.con (.int (2)))) (.idx (.var 1) (.con (.int (0))))))), (.ret (some (.call 82 [(.var 0), (.dic [(.con (.int (2))), (.var 2), (.con (.int (6))), (.call 74 [(.idx (.var 0) (.con (.int (6)))), (.bin .add (.slc (.idx (.var 0) (.con (.int (0)))) (some (.con (.int (1)))) (some (.con (.int (3))))) (.tup [(.var 4), (.var 5), (.or (.var 6) (.var 7))]))])])])))]⟩
/-- roomed_world -/
def f88 : FD := ⟨"roomed_world", 2, 5, [(.asg (.tp [(.nm 2), (.nm 3)]) (.call 26 [(.idx (.var 0) (.con (.int (3))))])), (.asg (.nm 4) (.bin .add (.call 21 [(.var 2)]) (.blt .int [(.cmp .eq (.var 1) (.con (.str "have")))]))), (.ret (some (.call 82 [(.var 0), (.dic [(.con (.int (3))), (.var 2), (.con (.int (7))), (.call 74 [(.idx (.var 0) (.con (.int (7)))), (.bin .add (.slc (.idx (.var 0) (.con (.int (1)))) (some (.con (.int (1)))) (some (.con (.int (3))))) (.tup [(.var 4), (.var 3)]))])])])))]⟩
/-- with_letter -/
def f89 : FD := ⟨"with_letter", 3, 4, [(.iff (.cmp .eq (.var 1) (.con (.int (0)))) [(.iff (.cmp .gt (.idx (.var 2) (.con (.int (3)))) (.idx (.idx (.var 0) (.con (.int (2)))) (.con (.int (3))))) [(.ret (some (.var 0)))] []), (.ret (some (.call 82 [(.var 0), (.dic [(.con (.int (2))), (.call 68 [(.call 64 [(.idx (.var 0) (.con (.int (2)))), (.idx (.var 2) (.con (.int (3))))]), (.idx (.var 2) (.con (.int (4))))])])])))] []), (.tri [(.asg (.nm 3) (.call 17 [(.idx (.var 0) (.con (.int (3)))), (.slc (.var 2) (some (.con (.int (3)))) none)]))] [.hdl [3] none [(.ret (some (.var 0)))]]), (.ret (some (.call 82 [(.var 0), (.dic [(.con (.int (3))), (.var 3)])])))]⟩
/-- heard_world -/
def f90 : FD := ⟨"heard_world", 4, 8, [(.asg (.nm 4) (.idx (.call 81 [(.var 0), (.var 1)]) (.var 2))), (.asg (.nm 5) (.call 75 [(.idx (.var 3) (.con (.int (2)))), (.idx (.var 0) (.var 1)), (.idx (.var 4) (.con (.int (1)))), (.idx (.var 4) (.con (.int (2))))])), (.iff (.cmp .isn (.var 5) (.con (.non))) [(.ret (some (.call 83 [(.var 0), (.var 1), (.idx (.var 4) (.con (.int (1)))), (.var 3)])))] []), (.asg (.nm 6) (.call 82 [(.var 0), (.dic [(.var 1), (.var 5), (.con (.int (8))), (.call 76 [(.idx (.var 0) (.con (.int (8)))), (.var 5)])])])), (.asg (.nm 7) (.ife (.cmp .eq (.idx (.var 3) (.con (.int (2)))) (.con (.str "to"))) (.idx (.var 5) (.con (.int (1)))) (.idx (.var 4) (.con (.int (2)))))), (.iff (.or (.cmp .eq (.idx (.var 4) (.con (.int (0)))) (.con (.str "greet"))) (.not (.call 33 [(.var 5), (.idx (.var 4) (.con (.int (1)))), (.var 7)]))) [(.ret (some (.var 6)))] []), (.ret (some (.call 89 [(.var 6), (.var 1), (.var 4)])))]⟩
/-- lost_world -/
def f91 : FD := ⟨"lost_world", 1, 4, [(.asg (.nm 1) (.idx (.var 0) (.con (.int (2))))), (.forr (.tp [(.nm 2), (.nm 3)]) (.call 70 [(.var 1)]) [(.asg (.nm 1) (.call 66 [(.var 1), (.var 2), (.var 3)]))]), (.ret (some (.call 82 [(.var 0), (.dic [(.con (.int (2))), (.var 1)])])))]⟩
/-- stream_behind -/
def f92 : FD := ⟨"stream_behind", 3, 4, [(.asg (.nm 3) (.idx (.var 1) (.con (.int (0))))), (.iff (.cmp .eq (.var 3) (.con (.str "greet"))) [(.ret (some (.call 82 [(.var 0), (.dic [(.bin .add (.con (.int (4))) (.idx (.var 1) (.con (.int (1))))), (.call 74 [(.idx (.var 0) (.bin .add (.con (.int (4))) (.idx (.var 1) (.con (.int (1)))))), (.slc (.idx (.var 0) (.idx (.var 1) (.con (.int (1))))) (some (.con (.int (1)))) (some (.con (.int (3)))))])])])))] []), (.iff (.cmp .eq (.var 3) (.con (.str "take"))) [(.ret (some (.call 87 [(.var 0), (.var 2)])))] []), (.iff (.cmp .eq (.var 3) (.con (.str "lose"))) [(.ret (some (.call 91 [(.var 0)])))] []), (.iff (.cmp .eq (.var 3) (.con (.str "room"))) [(.ret (some (.call 88 [(.var 0), (.idx (.var 2) (.con (.int (2))))])))] []), (.iff (.cmp .eq (.var 3) (.con (.str "hear"))) [(.ret (some (.call 90 [(.var 0), (.idx (.var 1) (.con (.int (1)))), (.idx (.var 1) (.con (.int (2)))), (.var 2)])))] []), (.ret (some (.ife (.cmp .eq (.var 3) (.con (.str "read"))) (.call 82 [(.var 0), (.dic [(.con (.int (3))), (.idx (.call 23 [(.idx (.var 0) (.con (.int (3)))), (.con (.int (1)))]) (.con (.int (0))))])]) (.call 83 [(.var 0), (.idx (.var 1) (.con (.int (1)))), (.con (.int (0))), (.var 2)]))))]⟩
/-- sent_pairs -/
def f93 : FD := ⟨"sent_pairs", 1, 3, [(.asg (.nm 1) (.bin .add (.idx (.var 0) (.con (.int (4)))) (.blt .tuple [(.comp (.slc (.var 2) none (some (.con (.int (2))))) (.nm 2) (.idx (.var 0) (.con (.int (6)))) none [2])]))), (.ret (some (.tup [(.var 1), (.bin .add (.idx (.var 0) (.con (.int (5)))) (.blt .tuple [(.comp (.slc (.var 2) none (some (.con (.int (2))))) (.nm 2) (.idx (.var 0) (.con (.int (7)))) none [2])]))])))]⟩
/-- is_agreeing -/
def f94 : FD := ⟨"is_agreeing", 2, 6, [(.iff (.or (.cmp .gt (.idx (.var 0) (.con (.int (0)))) (.var 1)) (.cmp .nmem (.idx (.var 0) (.con (.int (2)))) (.tup [(.con (.non)), (.var 1)]))) [(.ret (some (.con (.bl false))))] []), (.ret (some (.blt .all [(.com2 (.cmp .eq (.var 5) (.bin .add (.var 2) (.var 4))) (.tp [(.nm 2), (.nm 3)]) (.idx (.var 0) (.con (.int (1)))) none (.tp [(.nm 4), (.nm 5)]) (.enu (.var 3) none) none [2, 3, 4, 5] [4, 5])])))]⟩
/-- stream_fault -/
def f95 : FD := ⟨"stream_fault", 2, 11, [(.asg (.nm 2) (.call 78 [(.slc (.var 0) none (some (.con (.int (2))))), (.call 93 [(.var 0)]), (.idx (.var 0) (.con (.int (8))))])), (.asg (.tp [(.nm 3), (.nm 4)]) (.tup [(.idx (.var 0) (.con (.int (2)))), (.idx (.var 0) (.con (.int (3))))])), (.iff (.or (.cmp .nisn (.var 2) (.con (.non))) (.not (.call 94 [(.var 4), (.idx (.var 1) (.con (.int (0))))]))) [(.ret (some (.ife (.cmp .isn (.var 2) (.con (.non))) (.con (.int (6))) (.var 2))))] []), (.iff (.or (.blt .any [(.comp (.cmp .gt (.bin .add (.var 8) (.blt .len [(.var 9)])) (.idx (.var 4) (.con (.int (4))))) (.tp [(.nm 8), (.nm 9)]) (.idx (.var 4) (.con (.int (1)))) none [8, 9])]) (.cmp .gt (.idx (.var 4) (.con (.int (4)))) (.bin .add (.idx (.var 4) (.con (.int (0)))) (.idx (.var 1) (.con (.int (1))))))) [(.ret (some (.con (.int (7)))))] []), (.par [(5, false), (6, false)] [(.idx (.var 0) (.con (.int (0)))), (.idx (.var 0) (.con (.int (1))))]), (.iff (.and (.cmp .eq (.idx (.var 5) (.con (.int (3)))) (.con (.str "sure"))) (.and (.cmp .eq (.idx (.var 6) (.con (.int (3)))) (.con (.str "sure"))) (.and (.cmp .eq (.idx (.var 5) (.con (.int (2)))) (.idx (.var 6) (.con (.int (1))))) (.cmp .eq (.idx (.var 6) (.con (.int (2)))) (.idx (.var 5) (.con (.int (1)))))))) [(.iff (.or (.cmp .gt (.idx (.var 3) (.con (.int (0)))) (.call 21 [(.var 4)])) (.not (.blt .all [(.comp (.cmp .ge (.call 71 [(.var 4), (.var 8)]) (.var 10)) (.tp [(.nm 8), (.nm 10)]) (.idx (.var 3) (.con (.int (4)))) none [8, 10])]))) [(.ret (some (.con (.int (8)))))] []), (.iff (.cmp .gt (.idx (.var 3) (.con (.int (6)))) (.idx (.var 4) (.con (.int (4))))) [(.ret (some (.con (.int (9)))))] [])] []), (.asg (.nm 7) (.or (.cmp .gt (.idx (.var 4) (.con (.int (0)))) (.con (.int (0)))) (.or (.cmp .ne (.idx (.var 4) (.con (.int (1)))) (.tup [])) (.cmp .nisn (.idx (.var 4) (.con (.int (2)))) (.con (.non)))))), (.ret (some (.ife (.and (.var 7) (.cmp .nmem (.tup [(.idx (.var 6) (.con (.int (2)))), (.idx (.var 6) (.con (.int (1))))]) (.idx (.var 0) (.con (.int (8)))))) (.con (.int (10))) (.con (.non)))))]⟩
/-- need_case -/
def f96 : FD := ⟨"need_case", 3, 3, [(.iff (.not (.call 1 [(.var 0), (.con (.int (0))), (.glo 6)])) [(.rai 1 [(.var 0)])] []), (.iff (.not (.call 1 [(.var 1), (.con (.int (1))), (.glo 7)])) [(.rai 1 [(.var 1)])] []), (.iff (.cmp .gt (.blt .max [(.call 72 [(.var 2)])]) (.glo 8)) [(.rai 10 [(.var 2)])] [])]⟩
/-- need_rule -/
def f97 : FD := ⟨"need_rule", 1, 1, [(.iff (.or (.not (.isi (.var 0) .str)) (.cmp .nmem (.var 0) (.glo 9))) [(.rai 9 [(.var 0)])] []), (.ret (some (.var 0)))]⟩
/-- is_breaking -/
def f98 : FD := ⟨"is_breaking", 6, 11, [(.expr (.call 97 [(.var 0)])), (.expr (.call 96 [(.var 1), (.var 2), (.var 3)])), (.iff (.not (.call 1 [(.var 5), (.con (.int (1))), (.glo 10)])) [(.rai 1 [(.var 5)])] []), (.iff (.not (.isi (.var 4) .tup)) [(.ret (some (.con (.bl false))))] []), (.asg (.nm 6) (.tup [(.var 1), (.var 2), (.var 0)])), (.asg (.nm 7) (.call 80 [(.var 1), (.var 2), (.var 0)])), (.forr (.nm 8) (.var 4) [(.asg (.nm 9) (.comp (.blt .repr [(.var 10)]) (.nm 10) (.call 86 [(.var 7), (.var 3), (.var 0)]) none [10])), (.iff (.or (.cmp .nisn (.call 95 [(.var 7), (.var 6)]) (.con (.non))) (.cmp .nmem (.blt .repr [(.var 8)]) (.var 9))) [(.ret (some (.con (.bl false))))] []), (.asg (.nm 7) (.call 92 [(.var 7), (.var 8), (.var 6)]))]), (.ret (some (.cmp .eq (.call 95 [(.var 7), (.var 6)]) (.var 5))))]⟩
/-- _law_mixed -/
def f99 : FD := ⟨"_law_mixed", 2, 3, [(.asg (.nm 2) (.bin .add (.bin .add (.bin .mod (.blt .int [(.bin .mul (.bin .mul (.var 0) (.bin .add (.con (.int (1))) (.bin .mul (.con (.int (2))) (.var 1)))) (.con (.int (48271))))]) (.con (.int (2147483647)))) (.bin .mul (.bin .mul (.con (.int (7919))) (.var 1)) (.var 1))) (.bin .mul (.con (.int (104729))) (.var 1)))), (.ret (some (.bin .fdiv (.bin .mod (.blt .int [(.bin .mul (.var 2) (.con (.int (69621))))]) (.con (.int (2147483629)))) (.con (.int (7))))))]⟩
/-- _law_folded -/
def f100 : FD := ⟨"_law_folded", 1, 4, [(.oasg 1 (.comp (.bin .add (.con (.int (17))) (.var 2)) (.nm 2) (.rng [(.con (.int (64)))]) none [2])), (.forr (.tp [(.nm 2), (.nm 3)]) (.enu (.var 0) none) [(.osi 1 (.bin .mod (.blt .int [(.var 2)]) (.con (.int (64)))) (.bin .mod (.blt .int [(.bin .add (.bin .mul (.idx (.own 1) (.bin .mod (.blt .int [(.var 2)]) (.con (.int (64))))) (.con (.int (48271)))) (.var 3))]) (.con (.int (2147483647)))))]), (.forr (.nm 2) (.rng [(.con (.int (1))), (.con (.int (64)))]) [(.osi 1 (.var 2) (.bin .mod (.blt .int [(.bin .add (.idx (.own 1) (.var 2)) (.bin .mul (.idx (.own 1) (.bin .sub (.var 2) (.con (.int (1))))) (.con (.int (16807)))))]) (.con (.int (2147483647)))))]), (.ret (some (.own 1)))]⟩
/-- _law_draw -/
def f101 : FD := ⟨"_law_draw", 2, 6, [(.asg (.nm 2) (.idx (.var 0) (.con (.str "spot")))), (.asi (.var 0) (.con (.str "spot")) (.bin .add (.var 2) (.con (.int (1))))), (.iff (.cmp .ne (.idx (.var 0) (.con (.str "great"))) (.lst [])) [(.asg (.nm 3) (.idx (.var 0) (.con (.str "great")))), (.asg (.nm 4) (.bin .mod (.blt .int [(.var 2)]) (.blt .len [(.var 3)]))), (.asg (.nm 5) (.idx (.var 3) (.var 4))), (.iff (.cmp .gt (.var 5) (.con (.int (0)))) [(.asi (.var 3) (.var 4) (.bin .fdiv (.var 5) (.var 1))), (.ret (some (.bin .mod (.blt .int [(.var 5)]) (.var 1))))] [])] []), (.asg (.nm 3) (.idx (.var 0) (.con (.str "cells")))), (.ret (some (.bin .mod (.blt .int [(.call 99 [(.call 99 [(.bin .add (.idx (.var 3) (.bin .mod (.blt .int [(.var 2)]) (.con (.int (64))))) (.bin .mul (.con (.int (31))) (.bin .fdiv (.var 2) (.con (.int (64)))))), (.var 2)]), (.bin .add (.var 2) (.con (.int (7))))])]) (.var 1))))]⟩
/-- _law_begun -/
def f102 : FD := ⟨"_law_begun", 1, 3, [(.obx 1 (.dic [(.con (.str "cells")), (.call 100 [(.var 0)]), (.con (.str "great")), (.lst []), (.con (.str "spot")), (.con (.int (0)))])), (.abx (.var 1) (.con (.str "great")) (.comp (.ife (.cmp .ge (.var 2) (.bin .pow (.con (.int (10))) (.con (.int (18))))) (.var 2) (.con (.int (0)))) (.nm 2) (.var 0) none [2])), (.ret (some (.var 1)))]⟩
/-- _law_like -/
def f103 : FD := ⟨"_law_like", 2, 2, [(.ret (some (.cmp .eq (.blt .repr [(.var 0)]) (.blt .repr [(.var 1)]))))]⟩
/-- _law_of -/
def f104 : FD := ⟨"_law_of", 2, 2, [(.ret (some (.idx (.var 1) (.call 101 [(.var 0), (.blt .len [(.var 1)])]))))]⟩
/-- _law_small_put -/
def f105 : FD := ⟨"_law_small_put", 2, 2, [(.ret (some (.ife (.cmp .mem (.var 1) (.var 0)) (.var 0) (.blt .tuple [(.blt .sorted [(.bin .add (.var 0) (.tup [(.var 1)]))])]))))]⟩
/-- _law_small_heard -/
def f106 : FD := ⟨"_law_small_heard", 4, 8, [(.asg (.tp [(.nm 4), (.nm 5), (.nm 6), (.nm 7)]) (.var 1)), (.iff (.and (.cmp .lt (.var 2) (.var 6)) (.cmp .ne (.var 0) (.con (.str "older")))) [(.ret (some (.var 1)))] []), (.iff (.and (.cmp .eq (.var 7) (.con (.str "sure"))) (.and (.cmp .ne (.var 2) (.var 6)) (.cmp .ne (.var 0) (.con (.str "peer"))))) [(.ret (some (.con (.non))))] []), (.iff (.or (.cmp .eq (.var 7) (.con (.str "sure"))) (.or (.cmp .eq (.var 3) (.var 5)) (.cmp .eq (.var 0) (.con (.str "to"))))) [(.ret (some (.tup [(.var 4), (.var 5), (.var 2), (.con (.str "sure"))])))] []), (.ret (some (.tup [(.var 4), (.var 5), (.var 2), (.con (.str "new"))])))]⟩
/-- _law_small_left -/
def f107 : FD := ⟨"_law_small_left", 2, 2, [(.ret (some (.ife (.cmp .eq (.idx (.var 0) (.con (.int (0)))) (.con (.int (0)))) (.cmp .lt (.bin .fdiv (.bin .add (.idx (.var 0) (.con (.int (1)))) (.con (.int (1)))) (.con (.int (2)))) (.idx (.var 1) (.con (.int (0))))) (.cmp .lt (.bin .fdiv (.idx (.var 0) (.con (.int (1)))) (.con (.int (2)))) (.idx (.var 1) (.con (.int (1))))))))]⟩
/-- _law_small_note -/
def f108 : FD := ⟨"_law_small_note", 2, 2, [(.ret (some (.ife (.cmp .eq (.idx (.var 1) (.con (.int (3)))) (.con (.str "sure"))) (.call 105 [(.var 0), (.tup [(.idx (.var 1) (.con (.int (1)))), (.idx (.var 1) (.con (.int (2))))])]) (.var 0))))]⟩
/-- _law_small_with -/
def f109 : FD := ⟨"_law_small_with", 2, 3, [(.ret (some (.blt .tuple [(.comp (.ife (.cmp .mem (.var 2) (.var 1)) (.idx (.var 1) (.var 2)) (.idx (.var 0) (.var 2))) (.nm 2) (.rng [(.blt .len [(.var 0)])]) none [2])])))]⟩
/-- _law_links_broken -/
def f110 : FD := ⟨"_law_links_broken", 3, 10, [(.forr (.nm 3) (.rng [(.con (.int (2)))]) [(.asg (.nm 4) (.comp (.idx (.var 8) (.con (.int (0)))) (.nm 8) (.idx (.var 1) (.bin .sub (.con (.int (1))) (.var 3))) none [8])), (.iff (.and (.cmp .ne (.idx (.idx (.var 0) (.var 3)) (.con (.int (2)))) (.con (.int (0)))) (.cmp .nmem (.idx (.idx (.var 0) (.var 3)) (.con (.int (2)))) (.var 4))) [(.ret (some (.con (.int (1)))))] []), (.iff (.and (.cmp .eq (.idx (.idx (.var 0) (.var 3)) (.con (.int (3)))) (.con (.str "sure"))) (.cmp .nmem (.tup [(.idx (.idx (.var 0) (.var 3)) (.con (.int (2)))), (.idx (.idx (.var 0) (.var 3)) (.con (.int (1))))]) (.idx (.var 1) (.bin .sub (.con (.int (1))) (.var 3))))) [(.ret (some (.con (.int (2)))))] [])]), (.forr (.nm 3) (.rng [(.con (.int (2)))]) [(.par [(5, false), (6, false)] [(.idx (.var 0) (.var 3)), (.idx (.var 0) (.bin .sub (.con (.int (1))) (.var 3)))]), (.iff (.and (.cmp .eq (.idx (.var 5) (.con (.int (3)))) (.con (.str "sure"))) (.and (.cmp .eq (.idx (.var 6) (.con (.int (3)))) (.con (.str "sure"))) (.and (.cmp .eq (.idx (.var 5) (.con (.int (2)))) (.idx (.var 6) (.con (.int (1))))) (.cmp .lt (.idx (.var 6) (.con (.int (2)))) (.idx (.var 5) (.con (.int (1)))))))) [(.ret (some (.con (.int (3)))))] [])]), (.asg (.nm 7) (.comp (.idx (.var 8) (.con (.int (0)))) (.nm 8) (.var 2) none [8])), (.iff (.cmp .ne (.comp (.var 9) (.nm 9) (.rng [(.blt .len [(.var 7)])]) (some (.cmp .mem (.idx (.var 7) (.var 9)) (.slc (.var 7) none (some (.var 9))))) [9]) (.lst [])) [(.ret (some (.con (.int (4)))))] []), (.forr (.nm 3) (.rng [(.con (.int (2)))]) [(.asg (.nm 4) (.bin .add (.comp (.idx (.var 8) (.con (.int (0)))) (.nm 8) (.idx (.var 1) (.bin .sub (.con (.int (1))) (.var 3))) none [8]) (.lst [(.con (.int (0)))]))), (.iff (.cmp .ne (.comp (.var 8) (.nm 8) (.idx (.var 1) (.var 3)) (some (.cmp .nmem (.idx (.var 8) (.con (.int (1)))) (.var 4))) [8]) (.lst [])) [(.ret (some (.con (.int (5)))))] [])]), (.ret (some (.con (.int (0)))))]⟩
/-- _law_stream_first -/
def f111 : FD := ⟨"_law_stream_first", 2, 3, [(.asg (.nm 2) (.ife (.cmp .eq (.var 1) (.con (.str "limit"))) (.var 0) (.con (.int (0))))), (.ret (some (.tup [(.tup [(.con (.int (0))), (.con (.int (1))), (.con (.int (0))), (.con (.str "new"))]), (.tup [(.con (.int (1))), (.con (.int (2))), (.con (.int (0))), (.con (.str "new"))]), (.tup [(.con (.int (0))), (.con (.int (0))), (.tup []), (.var 2)]), (.tup [(.con (.int (0))), (.tup []), (.con (.non)), (.con (.int (0)))]), (.tup []), (.tup []), (.tup []), (.tup []), (.tup [])])))]⟩
/-- _law_stream_take -/
def f112 : FD := ⟨"_law_stream_take", 2, 6, [(.asg (.tp [(.nm 2), (.nm 3), (.nm 4), (.nm 5)]) (.var 0)), (.iff (.cmp .ne (.var 4) (.tup [])) [(.ret (some (.idx (.var 4) (.con (.int (0))))))] []), (.ret (some (.ife (.or (.cmp .lt (.var 3) (.blt .min [(.var 1), (.var 5)])) (.and (.cmp .eq (.var 3) (.var 1)) (.cmp .le (.var 1) (.var 5)))) (.var 3) (.con (.non)))))]⟩
/-- _law_stream_have -/
def f113 : FD := ⟨"_law_stream_have", 1, 6, [(.asg (.tp [(.nm 1), (.nm 2), (.nm 3), (.nm 4)]) (.var 0)), (.forr (.nm 5) (.rng [(.con (.int (4)))]) [(.asg (.nm 1) (.ife (.cmp .mem (.var 1) (.var 2)) (.bin .add (.var 1) (.con (.int (1)))) (.var 1)))]), (.ret (some (.ife (.cmp .eq (.var 3) (.var 1)) (.bin .add (.var 1) (.con (.int (1)))) (.var 1))))]⟩
/-- _law_stream_under -/
def f114 : FD := ⟨"_law_stream_under", 1, 6, [(.asg (.tp [(.nm 1), (.nm 2), (.nm 3), (.nm 4)]) (.var 0)), (.ret (some (.blt .tuple [(.comp (.var 5) (.nm 5) (.rng [(.var 1), (.var 2)]) (some (.cmp .nmem (.var 5) (.var 3))) [5])])))]⟩
/-- _law_stream_taken -/
def f115 : FD := ⟨"_law_stream_taken", 3, 10, [(.asg (.tp [(.nm 3), (.nm 4), (.nm 5), (.nm 6)]) (.idx (.var 0) (.con (.int (2))))), (.asg (.nm 7) (.call 112 [(.idx (.var 0) (.con (.int (2)))), (.var 1)])), (.asg (.nm 8) (.ife (.cmp .ne (.var 5) (.tup [])) (.tup [(.var 3), (.var 4), (.slc (.var 5) (some (.con (.int (1)))) none), (.var 6)]) (.tup [(.var 3), (.bin .add (.var 4) (.con (.int (1)))), (.var 5), (.var 6)]))), (.asg (.nm 9) (.tup [(.var 7), (.tup []), (.con (.bl true))])), (.iff (.cmp .lt (.var 7) (.var 1)) [(.asg (.nm 9) (.tup [(.var 7), (.tup [(.var 7)]), (.and (.cmp .eq (.var 2) (.con (.str "end"))) (.cmp .eq (.bin .add (.var 7) (.con (.int (2)))) (.var 1)))]))] []), (.ret (some (.call 109 [(.var 0), (.dic [(.con (.int (2))), (.var 8), (.con (.int (6))), (.call 105 [(.idx (.var 0) (.con (.int (6)))), (.bin .add (.slc (.idx (.var 0) (.con (.int (0)))) (some (.con (.int (1)))) (some (.con (.int (3))))) (.var 9))])])])))]⟩
/-- _law_stream_roomed -/
def f116 : FD := ⟨"_law_stream_roomed", 3, 9, [(.asg (.tp [(.nm 3), (.nm 4), (.nm 5), (.nm 6)]) (.idx (.var 0) (.con (.int (3))))), (.asg (.nm 7) (.bin .add (.call 113 [(.idx (.var 0) (.con (.int (3))))]) (.ife (.cmp .eq (.var 2) (.con (.str "have"))) (.con (.int (1))) (.con (.int (0)))))), (.asg (.nm 8) (.call 105 [(.idx (.var 0) (.con (.int (7)))), (.bin .add (.slc (.idx (.var 0) (.con (.int (1)))) (some (.con (.int (1)))) (some (.con (.int (3))))) (.tup [(.var 7), (.bin .add (.var 3) (.var 1))]))])), (.ret (some (.call 109 [(.var 0), (.dic [(.con (.int (3))), (.tup [(.var 3), (.var 4), (.var 5), (.bin .add (.var 3) (.var 1))]), (.con (.int (7))), (.var 8)])])))]⟩
/-- _law_stream_fed -/
def f117 : FD := ⟨"_law_stream_fed", 2, 11, [(.asg (.tp [(.nm 2), (.nm 3), (.nm 4), (.nm 5)]) (.var 0)), (.asg (.tp [(.nm 6), (.nm 7), (.nm 8)]) (.var 1)), (.asg (.nm 9) (.bin .add (.var 6) (.blt .len [(.var 7)]))), (.iff (.or (.and (.cmp .ne (.var 7) (.tup [])) (.cmp .gt (.var 9) (.var 5))) (.or (.and (.var 8) (.cmp .gt (.var 9) (.var 5))) (.and (.cmp .nisn (.var 4) (.con (.non))) (.or (.cmp .gt (.var 9) (.var 4)) (.and (.var 8) (.cmp .ne (.var 9) (.var 4))))))) [(.ret (some (.var 0)))] []), (.iff (.and (.var 8) (.cmp .lt (.var 9) (.blt .max [(.bin .add (.lst [(.var 2)]) (.comp (.bin .add (.var 10) (.con (.int (1)))) (.nm 10) (.var 3) none [10]))]))) [(.ret (some (.var 0)))] []), (.asg (.nm 3) (.ife (.or (.cmp .eq (.var 7) (.tup [])) (.or (.cmp .lt (.var 6) (.var 2)) (.cmp .mem (.var 6) (.var 3)))) (.var 3) (.blt .tuple [(.blt .sorted [(.bin .add (.var 3) (.tup [(.var 6)]))])]))), (.ret (some (.tup [(.var 2), (.var 3), (.ife (.var 8) (.var 9) (.var 4)), (.var 5)])))]⟩
/-- _law_stream_new -/
def f118 : FD := ⟨"_law_stream_new", 4, 9, [(.asg (.tp [(.nm 4), (.nm 5), (.nm 6)]) (.var 3)), (.asg (.nm 7) (.ife (.and (.cmp .eq (.var 6) (.con (.str "count"))) (.cmp .eq (.var 2) (.con (.int (0))))) (.idx (.idx (.var 0) (.var 1)) (.con (.int (1)))) (.bin .add (.idx (.idx (.var 0) (.var 1)) (.con (.int (1)))) (.con (.int (2)))))), (.asg (.nm 8) (.call 111 [(.var 4), (.var 6)])), (.ret (some (.call 109 [(.var 0), (.dic [(.var 1), (.tup [(.var 1), (.var 7), (.var 2), (.con (.str "new"))]), (.bin .add (.con (.int (2))) (.var 1)), (.idx (.var 8) (.bin .add (.con (.int (2))) (.var 1)))])])))]⟩
/-- _law_stream_heard -/
def f119 : FD := ⟨"_law_stream_heard", 5, 14, [(.asg (.nm 5) (.call 106 [(.idx (.var 4) (.con (.int (2)))), (.idx (.var 0) (.var 1)), (.idx (.var 2) (.con (.int (0)))), (.idx (.var 2) (.con (.int (1))))])), (.iff (.cmp .isn (.var 5) (.con (.non))) [(.ret (some (.con (.non))))] []), (.asg (.nm 6) (.call 109 [(.var 0), (.dic [(.var 1), (.var 5), (.con (.int (8))), (.call 108 [(.idx (.var 0) (.con (.int (8)))), (.var 5)])])])), (.asg (.nm 7) (.and (.cmp .eq (.idx (.var 5) (.con (.int (3)))) (.con (.str "sure"))) (.and (.cmp .eq (.idx (.var 5) (.con (.int (2)))) (.idx (.var 2) (.con (.int (0))))) (.or (.cmp .eq (.idx (.var 2) (.con (.int (1)))) (.idx (.var 5) (.con (.int (1))))) (.cmp .eq (.idx (.var 4) (.con (.int (2)))) (.con (.str "to"))))))), (.iff (.or (.cmp .eq (.var 3) (.con (.str "greet"))) (.not (.var 7))) [(.ret (some (.var 6)))] []), (.iff (.cmp .eq (.var 1) (.con (.int (1)))) [(.ret (some (.call 109 [(.var 6), (.dic [(.con (.int (3))), (.call 117 [(.idx (.var 6) (.con (.int (3)))), (.slc (.var 2) (some (.con (.int (2)))) none)])])])))] []), (.asg (.tp [(.nm 8), (.nm 9), (.nm 10), (.nm 11)]) (.idx (.var 6) (.con (.int (2))))), (.iff (.cmp .gt (.idx (.var 2) (.con (.int (2)))) (.var 9)) [(.ret (some (.var 6)))] []), (.asg (.nm 8) (.blt .max [(.var 8), (.idx (.var 2) (.con (.int (2))))])), (.asg (.nm 12) (.tup [(.var 8), (.var 9), (.blt .tuple [(.comp (.var 13) (.nm 13) (.var 10) (some (.cmp .ge (.var 13) (.var 8))) [13])]), (.blt .max [(.var 11), (.idx (.var 2) (.con (.int (3))))])])), (.ret (some (.call 109 [(.var 6), (.dic [(.con (.int (2))), (.var 12)])])))]⟩
/-- _law_stream_sending -/
def f120 : FD := ⟨"_law_stream_sending", 2, 14, [(.asg (.tp [(.nm 2), (.nm 3), (.nm 4)]) (.var 1)), (.oasg 5 (.lst [])), (.forr (.nm 6) (.rng [(.con (.int (2)))]) [(.asg (.nm 7) (.call 105 [(.idx (.var 0) (.bin .add (.con (.int (4))) (.var 6))), (.slc (.idx (.var 0) (.var 6)) (some (.con (.int (1)))) (some (.con (.int (3)))))])), (.oap 5 (.tup [(.tup [(.con (.str "greet")), (.var 6)]), (.call 109 [(.var 0), (.dic [(.bin .add (.con (.int (4))) (.var 6)), (.var 7)])])]))]), (.asg (.nm 8) (.or (.cmp .eq (.idx (.idx (.var 0) (.con (.int (0)))) (.con (.int (3)))) (.con (.str "sure"))) (.and (.cmp .eq (.var 4) (.con (.str "bare"))) (.cmp .gt (.idx (.idx (.var 0) (.con (.int (0)))) (.con (.int (2)))) (.con (.int (0))))))), (.iff (.and (.var 8) (.cmp .nisn (.call 112 [(.idx (.var 0) (.con (.int (2)))), (.var 2)]) (.con (.non)))) [(.oap 5 (.tup [(.tup [(.con (.str "take"))]), (.call 115 [(.var 0), (.var 2), (.var 4)])]))] []), (.asg (.tp [(.nm 9), (.tp [(.nm 10), (.nm 11), (.nm 12), (.nm 13)])]) (.tup [(.call 114 [(.idx (.var 0) (.con (.int (2))))]), (.idx (.var 0) (.con (.int (2))))])), (.iff (.cmp .ne (.var 9) (.tup [])) [(.oap 5 (.tup [(.tup [(.con (.str "lose"))]), (.call 109 [(.var 0), (.dic [(.con (.int (2))), (.tup [(.var 10), (.var 11), (.blt .tuple [(.blt .sorted [(.bin .add (.var 12) (.var 9))])]), (.var 13)])])])]))] []), (.iff (.cmp .eq (.idx (.idx (.var 0) (.con (.int (1)))) (.con (.int (3)))) (.con (.str "sure"))) [(.oap 5 (.tup [(.tup [(.con (.str "room"))]), (.call 116 [(.var 0), (.var 3), (.var 4)])]))] []), (.ret (some (.own 5)))]⟩
/-- _law_stream_deeds -/
def f121 : FD := ⟨"_law_stream_deeds", 3, 15, [(.oasg 3 (.calo 120 [(.var 0), (.var 2)])), (.forr (.nm 4) (.rng [(.con (.int (2)))]) [(.asg (.nm 5) (.bin .add (.comp (.tup [(.con (.str "greet")), (.var 14)]) (.nm 14) (.idx (.var 0) (.bin .sub (.con (.int (5))) (.var 4))) none [14]) (.comp (.tup [(.con (.str "more")), (.var 14)]) (.nm 14) (.idx (.var 0) (.bin .sub (.con (.int (7))) (.var 4))) none [14]))), (.forr (.tp [(.nm 6), (.tp [(.nm 7), (.nm 8)])]) (.enu (.var 5) none) [(.asg (.nm 9) (.call 119 [(.var 0), (.var 4), (.var 8), (.var 7), (.var 2)])), (.iff (.and (.cmp .isn (.var 9) (.con (.non))) (.call 107 [(.idx (.var 0) (.var 4)), (.var 1)])) [(.asg (.nm 9) (.call 118 [(.var 0), (.var 4), (.idx (.var 8) (.con (.int (0)))), (.var 2)]))] []), (.iff (.cmp .nisn (.var 9) (.con (.non))) [(.oap 3 (.tup [(.tup [(.con (.str "hear")), (.var 4), (.var 6)]), (.var 9)]))] [])])]), (.asg (.tp [(.nm 10), (.nm 11), (.nm 12), (.nm 13)]) (.idx (.var 0) (.con (.int (3))))), (.iff (.cmp .mem (.var 10) (.var 11)) [(.oap 3 (.tup [(.tup [(.con (.str "read"))]), (.call 109 [(.var 0), (.dic [(.con (.int (3))), (.tup [(.bin .add (.var 10) (.con (.int (1)))), (.slc (.var 11) (some (.con (.int (1)))) none), (.var 12), (.var 13)])])])]))] []), (.forr (.nm 4) (.rng [(.con (.int (2)))]) [(.iff (.or (.cmp .eq (.idx (.var 2) (.con (.int (2)))) (.con (.str "count"))) (.call 107 [(.idx (.var 0) (.var 4)), (.var 1)])) [(.oap 3 (.tup [(.tup [(.con (.str "crash")), (.var 4)]), (.call 118 [(.var 0), (.var 4), (.con (.int (0))), (.var 2)])]))] [])]), (.ret (some (.own 3)))]⟩
/-- _law_stream_broken -/
def f122 : FD := ⟨"_law_stream_broken", 2, 18, [(.par [(2, false), (3, false)] [(.idx (.var 1) (.con (.int (0)))), (.idx (.var 1) (.con (.int (1))))]), (.asg (.nm 4) (.bin .add (.idx (.var 0) (.con (.int (4)))) (.blt .tuple [(.comp (.slc (.var 14) none (some (.con (.int (2))))) (.nm 14) (.idx (.var 0) (.con (.int (6)))) none [14])]))), (.asg (.nm 5) (.call 110 [(.slc (.var 0) none (some (.con (.int (2))))), (.tup [(.var 4), (.bin .add (.idx (.var 0) (.con (.int (5)))) (.blt .tuple [(.comp (.slc (.var 14) none (some (.con (.int (2))))) (.nm 14) (.idx (.var 0) (.con (.int (7)))) none [14])]))]), (.idx (.var 0) (.con (.int (8))))])), (.asg (.tp [(.tp [(.nm 6), (.nm 7), (.nm 8), (.nm 9)]), (.tp [(.nm 10), (.nm 11), (.nm 12), (.nm 13)])]) (.tup [(.idx (.var 0) (.con (.int (2)))), (.idx (.var 0) (.con (.int (3))))])), (.iff (.cmp .ne (.var 5) (.con (.int (0)))) [(.ret (some (.var 5)))] []), (.iff (.or (.cmp .gt (.var 10) (.var 2)) (.cmp .nmem (.var 12) (.tup [(.con (.non)), (.var 2)]))) [(.ret (some (.con (.int (6)))))] []), (.iff (.or (.cmp .ne (.comp (.var 17) (.nm 17) (.var 11) (some (.cmp .ge (.var 17) (.var 13))) [17]) (.lst [])) (.cmp .gt (.var 13) (.bin .add (.var 10) (.var 3)))) [(.ret (some (.con (.int (7)))))] []), (.par [(14, false), (15, false)] [(.idx (.var 0) (.con (.int (0)))), (.idx (.var 0) (.con (.int (1))))]), (.iff (.and (.cmp .eq (.idx (.var 14) (.con (.int (3)))) (.con (.str "sure"))) (.and (.cmp .eq (.idx (.var 15) (.con (.int (3)))) (.con (.str "sure"))) (.and (.cmp .eq (.idx (.var 14) (.con (.int (2)))) (.idx (.var 15) (.con (.int (1))))) (.cmp .eq (.idx (.var 15) (.con (.int (2)))) (.idx (.var 14) (.con (.int (1)))))))) [(.iff (.or (.cmp .gt (.blt .min [(.var 6), (.var 2)]) (.call 113 [(.idx (.var 0) (.con (.int (3))))])) (.and (.cmp .gt (.var 6) (.var 2)) (.cmp .ne (.var 12) (.var 2)))) [(.ret (some (.con (.int (8)))))] []), (.iff (.cmp .gt (.var 9) (.var 13)) [(.ret (some (.con (.int (9)))))] [])] []), (.asg (.nm 16) (.or (.cmp .gt (.var 10) (.con (.int (0)))) (.or (.cmp .ne (.var 11) (.tup [])) (.cmp .nisn (.var 12) (.con (.non)))))), (.ret (some (.ife (.and (.var 16) (.cmp .nmem (.tup [(.idx (.var 15) (.con (.int (2)))), (.idx (.var 15) (.con (.int (1))))]) (.idx (.var 0) (.con (.int (8)))))) (.con (.int (10))) (.con (.int (0))))))]⟩
/-- _law_script -/
def f123 : FD := ⟨"_law_script", 3, 10, [(.par [(3, false), (4, true), (5, false)] [(.call 111 [(.idx (.var 1) (.con (.int (0)))), (.idx (.var 1) (.con (.int (2))))]), (.lst []), (.con (.int (0)))]), (.forr (.nm 6) (.rng [(.call 101 [(.var 0), (.con (.int (16)))])]) [(.iff (.cmp .ne (.call 122 [(.var 3), (.var 1)]) (.con (.int (0)))) [(.asg (.nm 5) (.neg (.con (.int (1)))))] []), (.asg (.nm 7) (.call 121 [(.var 3), (.var 2), (.var 1)])), (.iff (.cmp .eq (.call 101 [(.var 0), (.con (.int (30)))]) (.con (.int (0)))) [(.asg (.nm 8) (.call 104 [(.var 0), (.lst [(.tup [(.con (.str "crash")), (.con (.int (2)))]), (.tup [(.con (.str "take")), (.con (.int (0)))]), (.tup [(.con (.str "hear")), (.con (.int (1))), (.con (.int (99)))]), (.lst [(.con (.str "greet")), (.con (.int (0)))]), (.con (.non)), (.tup [(.con (.str "greet")), (.con (.bl false))])])])), (.ret (some (.tup [(.bin .add (.blt .tuple [(.own 4)]) (.tup [(.var 8)])), (.neg (.con (.int (1))))])))] []), (.asg (.tp [(.nm 9), (.nm 3)]) (.call 104 [(.var 0), (.var 7)])), (.oap 4 (.var 9))]), (.ret (some (.tup [(.blt .tuple [(.own 4)]), (.ife (.cmp .ne (.var 5) (.con (.int (0)))) (.var 5) (.call 122 [(.var 3), (.var 1)]))])))]⟩
/-- law -/
def f124 : FD := ⟨"law", 1, 9, [(.asg (.nm 1) (.call 102 [(.var 0)])), (.forr (.nm 2) (.rng [(.bin .add (.con (.int (4))) (.blt .min [(.blt .len [(.var 0)]), (.con (.int (8)))]))]) [(.asg (.nm 3) (.call 104 [(.var 1), (.lst [(.con (.str "to")), (.con (.str "peer")), (.con (.str "older")), (.con (.str "count")), (.con (.str "bare")), (.con (.str "limit")), (.con (.str "have")), (.con (.str "end"))])])), (.par [(4, false), (5, false)] [(.tup [(.call 101 [(.var 1), (.con (.int (3)))]), (.bin .add (.con (.int (1))) (.call 101 [(.var 1), (.con (.int (2)))])), (.var 3)]), (.call 104 [(.var 1), (.lst [(.tup [(.con (.int (1))), (.con (.int (1)))]), (.tup [(.con (.int (1))), (.con (.int (2)))]), (.tup [(.con (.int (2))), (.con (.int (1)))]), (.tup [(.con (.int (2))), (.con (.int (2)))])])])]), (.asg (.tp [(.nm 6), (.nm 7)]) (.call 123 [(.var 1), (.var 4), (.var 5)])), (.forr (.nm 8) (.lst [(.bin .add (.con (.int (1))) (.call 101 [(.var 1), (.con (.int (10)))])), (.blt .max [(.var 7), (.con (.int (1)))])]) [(.iff (.not (.call 103 [(.call 98 [(.var 3), (.idx (.var 4) (.con (.int (0)))), (.idx (.var 4) (.con (.int (1)))), (.var 5), (.var 6), (.var 8)]), (.cmp .eq (.var 8) (.var 7))])) [(.ret (some (.con (.bl false))))] [])])]), (.ret (some (.con (.bl true))))]⟩
def x0 : DD := ⟨dd "is_whole" "is_whole" 16, ["value"], ["value"], f0⟩
def x1 : DD := ⟨dd "is_within" "is_within" 17, ["value", "low", "high"], ["value", "low", "high"], f1⟩
def x2 : DD := ⟨dd "need_number" "need_number" 18, ["value", "low", "high"], ["value", "low", "high"], f2⟩
def x3 : DD := ⟨dd "are_octets" "are_octets" 22, ["value", "most"], ["value", "most", "octet"], f3⟩
def x4 : DD := ⟨dd "is_piece" "is_piece" 23, ["value"], ["value", "low", "octets", "is_end"], f4⟩
def x5 : DD := ⟨dd "need_piece" "need_piece" 24, ["value"], ["value"], f5⟩
def x6 : DD := ⟨dd "inbox_new" "inbox_new" 26, ["room"], ["room"], f6⟩
def x7 : DD := ⟨dd "is_block" "is_block" 27, ["value"], ["value"], f7⟩
def x8 : DD := ⟨dd "has_form" "has_form" 75, ["value"], ["value"], f8⟩
def x9 : DD := ⟨dd "has_form_inboxes" "has_form" 28, ["value"], ["value", "block"], f9⟩
def x10 : DD := ⟨dd "block_stop" "block_stop" 30, ["block"], ["block"], f10⟩
def x11 : DD := ⟨dd "held_stop" "held_stop" 31, ["inbox"], ["inbox"], f11⟩
def x12 : DD := ⟨dd "inbox_fault" "inbox_fault" 32, ["value"], ["value", "read", "held", "ended_at", "room", "granted", "low", "block"], f12⟩
def x13 : DD := ⟨dd "need_inbox" "need_inbox" 33, ["value"], ["value", "word"], f13⟩
def x14 : DD := ⟨dd "is_unlike" "is_unlike" 34, ["block", "low", "octets"], ["block", "low", "octets", "start", "stop"], f14⟩
def x15 : DD := ⟨dd "piece_fault" "piece_fault" 35, ["inbox", "piece"], ["inbox", "piece", "low", "octets", "is_end", "stop", "ended_at", "block"], f15⟩
def x16 : DD := ⟨dd "put_together" "put_together" 36, ["blocks"], ["blocks", "found", "low", "octets", "begun", "ahead"], f16⟩
def x17 : DD := ⟨dd "in_put" "in_put" 37, ["inbox", "piece"], ["inbox", "piece"], f17⟩
def x18 : DD := ⟨dd "in_put_at" "in_put_at" 38, ["inbox", "piece"], ["inbox", "piece", "read", "held", "ended_at", "room", "granted", "word", "low", "octets", "is_end", "fresh", "blocks"], f18⟩
def x19 : DD := ⟨dd "in_readable" "in_readable" 39, ["inbox"], ["inbox"], f19⟩
def x20 : DD := ⟨dd "in_readable_at" "in_readable_at" 40, ["inbox"], ["inbox", "read", "held", "ended_at", "room", "granted"], f20⟩
def x21 : DD := ⟨dd "in_have" "in_have" 41, ["inbox"], ["inbox"], f21⟩
def x22 : DD := ⟨dd "in_have_at" "in_have_at" 42, ["inbox"], ["inbox", "stop"], f22⟩
def x23 : DD := ⟨dd "in_read" "in_read" 43, ["inbox", "most"], ["inbox", "most"], f23⟩
def x24 : DD := ⟨dd "in_read_at" "in_read_at" 44, ["inbox", "most"], ["inbox", "most", "read", "held", "ended_at", "room", "granted", "many", "octets", "rest", "left"], f24⟩
def x25 : DD := ⟨dd "in_limit_at" "in_limit_at" 45, ["inbox"], ["inbox"], f25⟩
def x26 : DD := ⟨dd "in_grant" "in_grant" 46, ["inbox"], ["inbox"], f26⟩
def x27 : DD := ⟨dd "in_grant_at" "in_grant_at" 47, ["inbox"], ["inbox", "limit"], f27⟩
def x28 : DD := ⟨dd "need_side" "need_side" 50, ["side"], ["side"], f28⟩
def x29 : DD := ⟨dd "is_kind" "is_kind" 51, ["value", "side"], ["value", "side"], f29⟩
def x30 : DD := ⟨dd "is_life" "is_life" 52, ["value", "side"], ["value", "side"], f30⟩
def x31 : DD := ⟨dd "need_life" "need_life" 53, ["life", "side"], ["life", "side"], f31⟩
def x32 : DD := ⟨dd "link_begun" "link_begun" 55, ["side", "life"], ["side", "life"], f32⟩
def x33 : DD := ⟨dd "takes_from" "takes_from" 56, ["link", "from_life", "to_life"], ["link", "from_life", "to_life"], f33⟩
def x34 : DD := ⟨dd "is_range" "is_range" 59, ["value"], ["value", "low", "high"], f34⟩
def x35 : DD := ⟨dd "need_ranges" "need_ranges" 60, ["value"], ["value", "behind", "place", "pair"], f35⟩
def x36 : DD := ⟨dd "is_ranges" "is_ranges" 61, ["value"], ["value"], f36⟩
def x37 : DD := ⟨dd "bounded" "bounded" 62, ["rows"], ["rows"], f37⟩
def x38 : DD := ⟨dd "one_range" "one_range" 63, ["low", "high"], ["low", "high"], f38⟩
def x39 : DD := ⟨dd "merged" "merged" 64, ["rows"], ["rows", "found", "low", "high", "begun", "behind"], f39⟩
def x40 : DD := ⟨dd "has" "has" 65, ["ranges", "number"], ["ranges", "number", "low", "high"], f40⟩
def x41 : DD := ⟨dd "joined" "joined" 66, ["ranges", "other"], ["ranges", "other"], f41⟩
def x42 : DD := ⟨dd "common_rows" "common_rows" 67, ["rows", "others"], ["rows", "others", "found", "here", "there", "low", "high"], f42⟩
def x43 : DD := ⟨dd "met" "met" 68, ["ranges", "other"], ["ranges", "other"], f43⟩
def x44 : DD := ⟨dd "hole_rows" "hole_rows" 69, ["ranges", "low", "high"], ["ranges", "low", "high", "found", "here", "start", "stop"], f44⟩
def x45 : DD := ⟨dd "less" "less" 70, ["ranges", "other"], ["ranges", "other"], f45⟩
def x46 : DD := ⟨dd "holes" "holes" 71, ["ranges", "low", "high"], ["ranges", "low", "high"], f46⟩
def x47 : DD := ⟨dd "first_hole" "first_hole" 72, ["ranges", "start"], ["ranges", "start", "low", "high"], f47⟩
def x48 : DD := ⟨dd "outbox_new" "outbox_new" 74, ["limit"], ["limit"], f48⟩
def x49 : DD := ⟨dd "has_form_outboxes" "has_form" 75, ["value"], ["value"], f49⟩
def x50 : DD := ⟨dd "length_of" "length_of" 77, ["outbox"], ["outbox"], f50⟩
def x51 : DD := ⟨dd "lie_within" "lie_within" 78, ["ranges", "low", "high"], ["ranges", "low", "high"], f51⟩
def x52 : DD := ⟨dd "outbox_fault" "outbox_fault" 79, ["value"], ["value", "base", "octets", "is_finished", "taken", "acked", "lost", "limit", "length"], f52⟩
def x53 : DD := ⟨dd "need_outbox" "need_outbox" 80, ["value"], ["value", "word"], f53⟩
def x54 : DD := ⟨dd "out_put" "out_put" 81, ["outbox", "octets"], ["outbox", "octets", "base", "kept", "is_finished", "taken", "acked", "lost", "limit"], f54⟩
def x55 : DD := ⟨dd "wrong_place" "wrong_place" 82, ["octets"], ["octets", "place", "octet"], f55⟩
def x56 : DD := ⟨dd "out_finish" "out_finish" 83, ["outbox"], ["outbox", "base", "kept", "is_finished", "taken", "acked", "lost", "limit"], f56⟩
def x57 : DD := ⟨dd "new_stop" "new_stop" 84, ["outbox", "most"], ["outbox", "most", "taken", "limit", "length", "stop"], f57⟩
def x58 : DD := ⟨dd "next_places" "next_places" 85, ["outbox", "most"], ["outbox", "most", "low", "high"], f58⟩
def x59 : DD := ⟨dd "out_take" "out_take" 86, ["outbox", "most"], ["outbox", "most"], f59⟩
def x60 : DD := ⟨dd "out_take_at" "out_take_at" 87, ["outbox", "most"], ["outbox", "most", "base", "kept", "is_finished", "taken", "acked", "lost", "limit", "low", "high", "stop", "piece", "left"], f60⟩
def x61 : DD := ⟨dd "settled" "settled" 88, ["outbox"], ["outbox", "base", "kept", "is_finished", "taken", "acked", "lost", "limit", "fresh"], f61⟩
def x62 : DD := ⟨dd "need_places" "need_places" 89, ["outbox", "low", "high"], ["outbox", "low", "high"], f62⟩
def x63 : DD := ⟨dd "out_acked_at" "out_acked_at" 90, ["outbox", "low", "high"], ["outbox", "low", "high", "base", "kept", "is_finished", "taken", "acked", "lost", "limit", "part"], f63⟩
def x64 : DD := ⟨dd "out_had" "out_had" 91, ["outbox", "have"], ["outbox", "have"], f64⟩
def x65 : DD := ⟨dd "out_had_at" "out_had_at" 92, ["outbox", "have"], ["outbox", "have"], f65⟩
def x66 : DD := ⟨dd "out_lost" "out_lost" 93, ["outbox", "low", "high"], ["outbox", "low", "high"], f66⟩
def x67 : DD := ⟨dd "out_lost_at" "out_lost_at" 94, ["outbox", "low", "high"], ["outbox", "low", "high", "base", "kept", "is_finished", "taken", "acked", "lost", "limit", "part"], f67⟩
def x68 : DD := ⟨dd "out_roomed" "out_roomed" 95, ["outbox", "limit"], ["outbox", "limit"], f68⟩
def x69 : DD := ⟨dd "out_roomed_at" "out_roomed_at" 96, ["outbox", "limit"], ["outbox", "limit"], f69⟩
def x70 : DD := ⟨dd "out_under" "out_under" 97, ["outbox"], ["outbox"], f70⟩
def x71 : DD := ⟨dd "had_until" "had_until" 99, ["box", "place"], ["box", "place", "found", "piece"], f71⟩
def x72 : DD := ⟨dd "need_bound" "need_bound" 102, ["bound"], ["bound", "many"], f72⟩
def x73 : DD := ⟨dd "has_life_left" "has_life_left" 103, ["link", "bound"], ["link", "bound"], f73⟩
def x74 : DD := ⟨dd "put_in" "put_in" 104, ["row", "thing"], ["row", "thing"], f74⟩
def x75 : DD := ⟨dd "heard_without" "heard_without" 105, ["rule", "link", "from_life", "to_life"], ["rule", "link", "from_life", "to_life", "side", "mine", "peer", "phase", "is_sure"], f75⟩
def x76 : DD := ⟨dd "sure_behind" "sure_behind" 106, ["sure", "link"], ["sure", "link"], f76⟩
def x77 : DD := ⟨dd "next_link" "next_link" 107, ["link", "from_life", "rule"], ["link", "from_life", "rule", "life"], f77⟩
def x78 : DD := ⟨dd "link_fault_of" "link_fault_of" 108, ["links", "sent", "sure"], ["links", "sent", "sure", "side", "mine", "peer", "phase", "link", "far", "pair"], f78⟩
def x79 : DD := ⟨dd "full_outbox" "full_outbox" 113, ["length", "rule"], ["length", "rule", "outbox"], f79⟩
def x80 : DD := ⟨dd "first_stream_world" "first_stream_world" 114, ["length", "room", "rule"], ["length", "room", "rule"], f80⟩
def x81 : DD := ⟨dd "letters_for" "letters_for" 115, ["world", "side"], ["world", "side", "pair", "row"], f81⟩
def x82 : DD := ⟨dd "changed" "changed" 116, ["world", "changes"], ["world", "changes", "place", "thing"], f82⟩
def x83 : DD := ⟨dd "with_new_life" "with_new_life" 117, ["world", "side", "from_life", "case"], ["world", "side", "from_life", "case", "length", "room", "rule", "box"], f83⟩
def x84 : DD := ⟨dd "may_send" "may_send" 118, ["link", "rule"], ["link", "rule"], f84⟩
def x85 : DD := ⟨dd "hearing_stream_deeds" "hearing_stream_deeds" 119, ["world", "side", "bound", "rule"], ["world", "side", "bound", "rule", "found", "number", "letter"], f85⟩
def x86 : DD := ⟨dd "stream_deeds" "stream_deeds" 120, ["world", "bound", "rule"], ["world", "bound", "rule", "found", "side"], f86⟩
def x87 : DD := ⟨dd "taken_world" "taken_world" 121, ["world", "case"], ["world", "case", "outbox", "piece", "low", "octets", "is_end", "is_early"], f87⟩
def x88 : DD := ⟨dd "roomed_world" "roomed_world" 122, ["world", "rule"], ["world", "rule", "inbox", "limit", "have"], f88⟩
def x89 : DD := ⟨dd "with_letter" "with_letter" 123, ["world", "side", "letter"], ["world", "side", "letter", "inbox"], f89⟩
def x90 : DD := ⟨dd "heard_world" "heard_world" 124, ["world", "side", "number", "case"], ["world", "side", "number", "case", "letter", "link", "later", "to_life"], f90⟩
def x91 : DD := ⟨dd "lost_world" "lost_world" 125, ["world"], ["world", "outbox", "low", "high"], f91⟩
def x92 : DD := ⟨dd "stream_behind" "stream_behind" 126, ["world", "deed", "case"], ["world", "deed", "case", "word"], f92⟩
def x93 : DD := ⟨dd "sent_pairs" "sent_pairs" 127, ["world"], ["world", "left", "row"], f93⟩
def x94 : DD := ⟨dd "is_agreeing" "is_agreeing" 128, ["inbox", "length"], ["inbox", "length", "low", "octets", "n", "octet"], f94⟩
def x95 : DD := ⟨dd "stream_fault" "stream_fault" 129, ["world", "case"], ["world", "case", "number", "outbox", "inbox", "left", "right", "is_fed", "low", "octets", "high"], f95⟩
def x96 : DD := ⟨dd "need_case" "need_case" 130, ["length", "room", "bound"], ["length", "room", "bound"], f96⟩
def x97 : DD := ⟨dd "need_rule" "need_rule" 134, ["rule"], ["rule"], f97⟩
def x98 : DD := ⟨dd "is_breaking" "is_breaking" 135, ["rule", "length", "room", "bound", "script", "sentence"], ["rule", "length", "room", "bound", "script", "sentence", "case", "world", "deed", "known", "one"], f98⟩
def x99 : DD := ⟨dd "_law_mixed" "_law_mixed" 137, ["_law_cell", "_law_n"], ["_law_cell", "_law_n", "_law_blend"], f99⟩
def x100 : DD := ⟨dd "_law_folded" "_law_folded" 138, ["_law_script_here"], ["_law_script_here", "_law_found", "_law_n", "_law_cell"], f100⟩
def x101 : DD := ⟨dd "_law_draw" "_law_draw" 139, ["_law_m", "_law_limit"], ["_law_m", "_law_limit", "_law_n", "_law_lot", "_law_here", "_law_cell"], f101⟩
def x102 : DD := ⟨dd "_law_begun" "_law_begun" 140, ["_law_script_here"], ["_law_script_here", "_law_m", "_law_cell"], f102⟩
def x103 : DD := ⟨dd "_law_like" "_law_like" 141, ["_law_got", "_law_due"], ["_law_got", "_law_due"], f103⟩
def x104 : DD := ⟨dd "_law_of" "_law_of" 142, ["_law_m", "_law_some"], ["_law_m", "_law_some"], f104⟩
def x105 : DD := ⟨dd "_law_small_put" "_law_small_put" 143, ["_law_row", "_law_thing"], ["_law_row", "_law_thing"], f105⟩
def x106 : DD := ⟨dd "_law_small_heard" "_law_small_heard" 144, ["_law_rule", "_law_link", "_law_life", "_law_far"], ["_law_rule", "_law_link", "_law_life", "_law_far", "_law_side", "_law_mine", "_law_peer", "_law_phase"], f106⟩
def x107 : DD := ⟨dd "_law_small_left" "_law_small_left" 145, ["_law_link", "_law_bound"], ["_law_link", "_law_bound"], f107⟩
def x108 : DD := ⟨dd "_law_small_note" "_law_small_note" 146, ["_law_sure", "_law_link"], ["_law_sure", "_law_link"], f108⟩
def x109 : DD := ⟨dd "_law_small_with" "_law_small_with" 147, ["_law_world", "_law_changes"], ["_law_world", "_law_changes", "_law_place"], f109⟩
def x110 : DD := ⟨dd "_law_links_broken" "_law_links_broken" 148, ["_law_links", "_law_sent", "_law_sure"], ["_law_links", "_law_sent", "_law_sure", "_law_side", "_law_firsts", "_law_one", "_law_two", "_law_lives", "_law_pair", "_law_n"], f110⟩
def x111 : DD := ⟨dd "_law_stream_first" "_law_stream_first" 149, ["_law_length", "_law_rule"], ["_law_length", "_law_rule", "_law_limit"], f111⟩
def x112 : DD := ⟨dd "_law_stream_take" "_law_stream_take" 150, ["_law_box", "_law_length"], ["_law_box", "_law_length", "_law_known", "_law_nxt", "_law_lost", "_law_limit"], f112⟩
def x113 : DD := ⟨dd "_law_stream_have" "_law_stream_have" 151, ["_law_inbox"], ["_law_inbox", "_law_read", "_law_held", "_law_stop", "_law_granted", "_law_turn"], f113⟩
def x114 : DD := ⟨dd "_law_stream_under" "_law_stream_under" 152, ["_law_box"], ["_law_box", "_law_known", "_law_nxt", "_law_lost", "_law_limit", "_law_place"], f114⟩
def x115 : DD := ⟨dd "_law_stream_taken" "_law_stream_taken" 153, ["_law_world", "_law_length", "_law_rule"], ["_law_world", "_law_length", "_law_rule", "_law_known", "_law_nxt", "_law_lost", "_law_limit", "_law_place", "_law_box", "_law_piece"], f115⟩
def x116 : DD := ⟨dd "_law_stream_roomed" "_law_stream_roomed" 154, ["_law_world", "_law_room", "_law_rule"], ["_law_world", "_law_room", "_law_rule", "_law_read", "_law_held", "_law_stop", "_law_granted", "_law_have", "_law_told"], f116⟩
def x117 : DD := ⟨dd "_law_stream_fed" "_law_stream_fed" 155, ["_law_inbox", "_law_piece"], ["_law_inbox", "_law_piece", "_law_read", "_law_held", "_law_stop", "_law_granted", "_law_low", "_law_octets", "_law_is_end", "_law_top", "_law_place"], f117⟩
def x118 : DD := ⟨dd "_law_stream_new" "_law_stream_new" 156, ["_law_world", "_law_side", "_law_life", "_law_case"], ["_law_world", "_law_side", "_law_life", "_law_case", "_law_length", "_law_room", "_law_rule", "_law_mine", "_law_first"], f118⟩
def x119 : DD := ⟨dd "_law_stream_heard" "_law_stream_heard" 157, ["_law_world", "_law_side", "_law_letter", "_law_kind", "_law_case"], ["_law_world", "_law_side", "_law_letter", "_law_kind", "_law_case", "_law_link", "_law_later", "_law_is_taken", "_law_known", "_law_nxt", "_law_lost", "_law_limit", "_law_box", "_law_place"], f119⟩
def x120 : DD := ⟨dd "_law_stream_sending" "_law_stream_sending" 158, ["_law_world", "_law_case"], ["_law_world", "_law_case", "_law_length", "_law_room", "_law_rule", "_law_found", "_law_side", "_law_later", "_law_may", "_law_under", "_law_known", "_law_nxt", "_law_lost", "_law_limit"], f120⟩
def x121 : DD := ⟨dd "_law_stream_deeds" "_law_stream_deeds" 159, ["_law_world", "_law_bound", "_law_case"], ["_law_world", "_law_bound", "_law_case", "_law_found", "_law_side", "_law_letters", "_law_n", "_law_kind", "_law_letter", "_law_later", "_law_read", "_law_held", "_law_stop", "_law_granted", "_law_one"], f121⟩
def x122 : DD := ⟨dd "_law_stream_broken" "_law_stream_broken" 160, ["_law_world", "_law_case"], ["_law_world", "_law_case", "_law_length", "_law_room", "_law_left", "_law_number", "_law_known", "_law_nxt", "_law_lost", "_law_limit", "_law_read", "_law_held", "_law_stop", "_law_granted", "_law_one", "_law_two", "_law_is_fed", "_law_place"], f122⟩
def x123 : DD := ⟨dd "_law_script" "_law_script" 161, ["_law_m", "_law_case", "_law_bound"], ["_law_m", "_law_case", "_law_bound", "_law_world", "_law_deeds", "_law_number", "_law_turn", "_law_lot", "_law_odd", "_law_deed"], f123⟩
def x124 : DD := ⟨dd "law" "law" 162, ["_law_script_here"], ["_law_script_here", "_law_m", "_law_turn", "_law_rule", "_law_case", "_law_bound", "_law_deeds", "_law_number", "_law_sentence"], f124⟩
def ord0 : List (GS) := [.oth "WireError", .cls ⟨"BadOctets", ["place"], tp 2⟩, .cls ⟨"BadNumber", ["value"], tp 3⟩, .cls ⟨"BadRanges", ["place"], tp 4⟩, .cls ⟨"BadPiece", ["word"], tp 5⟩, .cls ⟨"BadOutbox", ["word"], tp 6⟩, .cls ⟨"BadInbox", ["word"], tp 7⟩, .cls ⟨"Finished", ["stream"], tp 8⟩, .cls ⟨"BadLife", ["value"], tp 9⟩, .cls ⟨"BadSide", ["value"], tp 10⟩, .cls ⟨"BadRule", ["value"], tp 11⟩, .cls ⟨"BadBound", ["value"], tp 12⟩, .cls ⟨"TooGreat", ["most"], tp 13⟩, .con "MOST_NUMBER" (.int (1152921504606846976)), .fn x0, .fn x1, .fn x2, .con "MOST_KEPT" (.int (1048576)), .con "MOST_LENGTH_pieces" (.int (1152921504606846975)), .fn x3, .fn x4, .fn x5, .fn x6, .fn x7, .fn x8, .fn x9, .fn x10, .fn x11, .fn x12, .fn x13]
def ord1 : List (GS) := [.fn x14, .fn x15, .fn x16, .fn x17, .fn x18, .fn x19, .fn x20, .fn x21, .fn x22, .fn x23, .fn x24, .fn x25, .fn x26, .fn x27, .con "MOST_LIFE" (.int (1152921504606846976)), .fn x28, .fn x29, .fn x30, .fn x31, .fn x32, .fn x33, .con "MOST_RANGES" (.int (1048576)), .fn x34, .fn x35, .fn x36, .fn x37, .fn x38, .fn x39, .fn x40, .fn x41]
def ord2 : List (GS) := [.fn x42, .fn x43, .fn x44, .fn x45, .fn x46, .fn x47, .fn x48, .fn x49, .fn x50, .fn x51, .fn x52, .fn x53, .fn x54, .fn x55, .fn x56, .fn x57, .fn x58, .fn x59, .fn x60, .fn x61, .fn x62, .fn x63, .fn x64, .fn x65, .fn x66, .fn x67, .fn x68, .fn x69, .fn x70, .fn x71]
def ord3 : List (GS) := [.con "MOST_LIVES_smalllinks" (.int (3)), .fn x72, .fn x73, .fn x74, .fn x75, .fn x76, .fn x77, .fn x78, .con "MOST_LENGTH_smallstreams" (.int (2)), .con "MOST_ROOM" (.int (2)), .con "MOST_LIVES_smallstreams" (.int (2)), .fn x79, .fn x80, .fn x81, .fn x82, .fn x83, .fn x84, .fn x85, .fn x86, .fn x87, .fn x88, .fn x89, .fn x90, .fn x91, .fn x92, .fn x93, .fn x94, .fn x95, .fn x96, .con "RULES" (.tup [.str "to", .str "peer", .str "older", .str "count", .str "bare", .str "limit", .str "have", .str "end"])]
def ord4 : List (GS) := [.con "MOST_SENTENCE" (.int (10)), .fn x97, .fn x98, .fn x99, .fn x100, .fn x101, .fn x102, .fn x103, .fn x104, .fn x105, .fn x106, .fn x107, .fn x108, .fn x109, .fn x110, .fn x111, .fn x112, .fn x113, .fn x114, .fn x115, .fn x116, .fn x117, .fn x118, .fn x119, .fn x120, .fn x121, .fn x122, .fn x123, .fn x124]
def ord : List (GS) := ord0 ++ ord1 ++ ord2 ++ ord3 ++ ord4
def blts : List Str := ["all", "any", "bool", "enumerate", "int", "isinstance", "len", "max", "min", "range", "repr", "sorted", "str", "tuple"]
def md : Md := ⟨ord, blts, 60, 300000⟩
end M76
end
section
set_option Elab.async false
set_option linter.all false
set_option maxRecDepth 100000
set_option maxHeartbeats 0
namespace M76
open PySem PySem.W PySem.Calls PyProof.Rows OL
abbrev R : OpenRow := OpenLaw.row PySem.Challenge.rw_prefixwire_k76_whole_scripts_judged
abbrev hk : Hook := md.hook R.prog 3000
def ob (s : SharedT) : AlO := md.obsG R.prog 3000 (HandSHeadRun.getT s)
theorem ob_eq (s : SharedT) : ob s = hk.obs s.abs := Md.obsG_eq (HandSHeadRun.getT_eq s)
def names0 : List PySem.Str := [("WireError" : PySem.Str), ("BadOctets" : PySem.Str), ("BadNumber" : PySem.Str), ("BadRanges" : PySem.Str), ("BadPiece" : PySem.Str), ("BadOutbox" : PySem.Str), ("BadInbox" : PySem.Str), ("Finished" : PySem.Str), ("BadLife" : PySem.Str), ("BadSide" : PySem.Str), ("BadRule" : PySem.Str), ("BadBound" : PySem.Str), ("TooGreat" : PySem.Str), ("MOST_NUMBER" : PySem.Str), ("is_whole" : PySem.Str), ("is_within" : PySem.Str), ("need_number" : PySem.Str), ("MOST_KEPT" : PySem.Str), ("MOST_LENGTH_pieces" : PySem.Str), ("are_octets" : PySem.Str), ("is_piece" : PySem.Str), ("need_piece" : PySem.Str), ("inbox_new" : PySem.Str), ("is_block" : PySem.Str), ("has_form" : PySem.Str), ("has_form_inboxes" : PySem.Str), ("block_stop" : PySem.Str), ("held_stop" : PySem.Str), ("inbox_fault" : PySem.Str), ("need_inbox" : PySem.Str), ("is_unlike" : PySem.Str), ("piece_fault" : PySem.Str), ("put_together" : PySem.Str), ("in_put" : PySem.Str), ("in_put_at" : PySem.Str), ("in_readable" : PySem.Str), ("in_readable_at" : PySem.Str), ("in_have" : PySem.Str), ("in_have_at" : PySem.Str), ("in_read" : PySem.Str)]
def names1 : List PySem.Str := [("in_read_at" : PySem.Str), ("in_limit_at" : PySem.Str), ("in_grant" : PySem.Str), ("in_grant_at" : PySem.Str), ("MOST_LIFE" : PySem.Str), ("need_side" : PySem.Str), ("is_kind" : PySem.Str), ("is_life" : PySem.Str), ("need_life" : PySem.Str), ("link_begun" : PySem.Str), ("takes_from" : PySem.Str), ("MOST_RANGES" : PySem.Str), ("is_range" : PySem.Str), ("need_ranges" : PySem.Str), ("is_ranges" : PySem.Str), ("bounded" : PySem.Str), ("one_range" : PySem.Str), ("merged" : PySem.Str), ("has" : PySem.Str), ("joined" : PySem.Str), ("common_rows" : PySem.Str), ("met" : PySem.Str), ("hole_rows" : PySem.Str), ("less" : PySem.Str), ("holes" : PySem.Str), ("first_hole" : PySem.Str), ("outbox_new" : PySem.Str), ("has_form_outboxes" : PySem.Str), ("length_of" : PySem.Str), ("lie_within" : PySem.Str), ("outbox_fault" : PySem.Str), ("need_outbox" : PySem.Str), ("out_put" : PySem.Str), ("wrong_place" : PySem.Str), ("out_finish" : PySem.Str), ("new_stop" : PySem.Str), ("next_places" : PySem.Str), ("out_take" : PySem.Str), ("out_take_at" : PySem.Str), ("settled" : PySem.Str)]
def names2 : List PySem.Str := [("need_places" : PySem.Str), ("out_acked_at" : PySem.Str), ("out_had" : PySem.Str), ("out_had_at" : PySem.Str), ("out_lost" : PySem.Str), ("out_lost_at" : PySem.Str), ("out_roomed" : PySem.Str), ("out_roomed_at" : PySem.Str), ("out_under" : PySem.Str), ("had_until" : PySem.Str), ("MOST_LIVES_smalllinks" : PySem.Str), ("need_bound" : PySem.Str), ("has_life_left" : PySem.Str), ("put_in" : PySem.Str), ("heard_without" : PySem.Str), ("sure_behind" : PySem.Str), ("next_link" : PySem.Str), ("link_fault_of" : PySem.Str), ("MOST_LENGTH_smallstreams" : PySem.Str), ("MOST_ROOM" : PySem.Str), ("MOST_LIVES_smallstreams" : PySem.Str), ("full_outbox" : PySem.Str), ("first_stream_world" : PySem.Str), ("letters_for" : PySem.Str), ("changed" : PySem.Str), ("with_new_life" : PySem.Str), ("may_send" : PySem.Str), ("hearing_stream_deeds" : PySem.Str), ("stream_deeds" : PySem.Str), ("taken_world" : PySem.Str), ("roomed_world" : PySem.Str), ("with_letter" : PySem.Str), ("heard_world" : PySem.Str), ("lost_world" : PySem.Str), ("stream_behind" : PySem.Str), ("sent_pairs" : PySem.Str), ("is_agreeing" : PySem.Str), ("stream_fault" : PySem.Str), ("need_case" : PySem.Str), ("RULES" : PySem.Str)]
def names3 : List PySem.Str := [("MOST_SENTENCE" : PySem.Str), ("need_rule" : PySem.Str), ("is_breaking" : PySem.Str), ("_law_mixed" : PySem.Str), ("_law_folded" : PySem.Str), ("_law_draw" : PySem.Str), ("_law_begun" : PySem.Str), ("_law_like" : PySem.Str), ("_law_of" : PySem.Str), ("_law_small_put" : PySem.Str), ("_law_small_heard" : PySem.Str), ("_law_small_left" : PySem.Str), ("_law_small_note" : PySem.Str), ("_law_small_with" : PySem.Str), ("_law_links_broken" : PySem.Str), ("_law_stream_first" : PySem.Str), ("_law_stream_take" : PySem.Str), ("_law_stream_have" : PySem.Str), ("_law_stream_under" : PySem.Str), ("_law_stream_taken" : PySem.Str), ("_law_stream_roomed" : PySem.Str), ("_law_stream_fed" : PySem.Str), ("_law_stream_new" : PySem.Str), ("_law_stream_heard" : PySem.Str), ("_law_stream_sending" : PySem.Str), ("_law_stream_deeds" : PySem.Str), ("_law_stream_broken" : PySem.Str), ("_law_script" : PySem.Str)]
def names : List PySem.Str := names0 ++ names1 ++ names2 ++ names3
theorem run (w : World) : HandSHeadRun.RunEq R (view R.prog [162]) hk ob 40000 names w := by
  intro os
  kernel_rfl
end M76
end
section
set_option Elab.async false
set_option linter.all false
set_option maxRecDepth 100000
/-! OL, part b: what operators, built-ins, methods give, by values. -/
namespace OL
open PySem
abbrev SZ : Nat := 16777216

mutual
/-- as the library's data -/
def datS (f : Nat → Option PyData) : PV → Option PyData
  | .non => some .none
  | .bl b => some (.bool b)
  | .int i => some (.int i)
  | .str s => some (.str s)
  | .tup l => (datsS f l).map .tuple
  | .lv l => (datsS f l).map .list
  | .ref i => f i
  | _ => none
def datsS (f : Nat → Option PyData) : List PV → Option (List PyData)
  | [] => some []
  | v :: r => match datS f v, datsS f r with
    | some d, some ds => some (d :: ds)
    | _, _ => none
end
def refD : Nat → Sto → Nat → Option PyData
  | 0, _, _ => none
  | n + 1, μ, i => match μ[i]? with
    | some (.lst l) => (datsS (refD n μ) l).map .list
    | _ => none
def datM (μ : Sto) (v : PV) : Option PyData := datS (refD 6 μ) v

def truth (μ : Sto) : PV → Option Bool
  | .non => some false
  | .bl b => some b
  | .int i => some (i != 0)
  | .str s => if s.length ≤ SZ then some (s.length != 0) else none
  | .tup l => some (!l.isEmpty)
  | .lv l => some (!l.isEmpty)
  | .ref i => (match μ[i]? with
    | some (.lst l) => some (!l.isEmpty)
    | _ => none)
  | _ => none

def lstM (μ : Sto) : PV → Option (List PV)
  | .ref i => (match μ[i]? with
    | some (.lst l) => some l
    | _ => none)
  | .lv l => some l
  | _ => none
/-- a new list -/
def newL (l : List PV) (μ : Sto) : Res PV := if l.length ≤ SZ then .ok (.lv l) μ else .err

def mulOk (i j : Int) : Bool := decide (i.natAbs < 2 ^ 64) || decide (j.natAbs < 2 ^ 64) || decide (i.natAbs.log2 + j.natAbs.log2 < 1000000)
def powOk (i j : Int) : Bool := decide (0 ≤ j) && decide (j ≤ 1000000) && decide (i.natAbs < 2 ^ 64)
/-- n times -/
def times (n : Int) (l : List PV) : List PV := (List.replicate n.toNat l).flatten

def intOp (o : Bop) (i j : Int) : Option Int := match o with
  | .add => some (i + j)
  | .sub => some (i - j)
  | .mul => if mulOk i j then some (i * j) else none
  | .fdiv => if j ≠ 0 ∧ j.natAbs.log2 < 9000 then some (i.fdiv j) else none
  | .mod => if j ≠ 0 then some (i.fmod j) else none
  | .pow => if powOk i j then some (i ^ j.toNat) else none
  | .shl => if powOk i j then some (i * 2 ^ j.toNat) else none
  | .shr => if 0 ≤ j then some (i / 2 ^ j.toNat) else none
  | .band => some (Builtin.bitAnd i j)
  | .bor => some (Builtin.bitOr i j)
  | .bxor => some (Builtin.bitXor i j)

def binOp (o : Bop) (a b : PV) (μ : Sto) : Res PV := match a, b with
  | .int i, .int j => (match intOp o i j with
    | some k => .ok (.int k) μ
    | none => .err)
  | .tup x, .tup y => if o = .add ∧ x.length + y.length ≤ SZ then .ok (.tup (x ++ y)) μ else .err
  | .str x, .str y => if o = .add ∧ x.length + y.length ≤ SZ then .ok (.str (x ++ y)) μ else .err
  | .tup x, .int n => if o = .mul ∧ 2 ≤ n ∧ n ≤ 1000 ∧ 0 < x.length ∧ x.length ≤ 1000 then .ok (.tup (times n x)) μ else .err
  | .lv x, .lv y => if o = .add then newL (x ++ y) μ else .err
  | .lv x, .int n => if o = .mul ∧ 0 ≤ n ∧ n < 2 ^ 63 ∧ x.length * n.toNat ≤ SZ then newL (times n x) μ else .err
  | _, _ => .err

/-- == of two values -/
def eqM (μ : Sto) (a b : PV) : Option Bool := match datM μ a, datM μ b with
  | some x, some y => if SeqAt.shaped x = true ∧ SeqAt.shaped y = true then some (PyData.eqv x y) else none
  | _, _ => none
def memM (μ : Sto) (x : PyData) (l : List PV) : Option Bool := match datsS (refD 6 μ) l with
  | some ds => if SeqAt.shaped x = true ∧ PyData.canLayAll0 ds = true then some (ds.any fun y => PyData.eqv y x) else none
  | none => none
def keyOf : PV → Option Ky
  | .int i => some (.inl i)
  | .str s => some (.inr s)
  | _ => none
def lookK : List Ky → List PV → Ky → Option PV
  | k' :: ks, v :: vs, k => if k' = k then some v else lookK ks vs k
  | _, _, _ => none
def updK : List Ky → List PV → Ky → PV → List PV
  | k' :: ks, v' :: vs, k, v => (if k' = k then v else v') :: updK ks vs k v
  | _, _, _, _ => []
/-- d[k] = v, the keys and the values -/
def putK (ks : List Ky) (vs : List PV) (k : Ky) (v : PV) : List Ky × List PV := if (ks.any fun j => decide (j = k)) = true then (ks, updK ks vs k v) else (ks ++ [k], vs ++ [v])

def inM (μ : Sto) (x y : PV) : Option Bool := match y with
  | .tup l => (datM μ x).bind fun d => memM μ d l
  | .str t => (match x with
    | .str s => some (!(Builtin.Str.occurrences t s 0 t.length 1).isEmpty)
    | _ => none)
  | .lv l => (datM μ x).bind fun d => memM μ d l
  | .dv ks vs => (keyOf x).map fun k => (lookK ks vs k).isSome
  | .ref i => (match μ[i]? with
    | some (.lst l) => (datM μ x).bind fun d => memM μ d l
    | some (.dct ks vs) => (keyOf x).map fun k => (lookK ks vs k).isSome
    | none => none)
  | _ => none

def intC (f : Int → Int → Bool) : PV → PV → Option Bool
  | .int i, .int j => some (f i j)
  | _, _ => none
def isNon : PV → Bool
  | .non => true
  | _ => false
def cmpOp (o : Cop) (a b : PV) (μ : Sto) : Option Bool := match o with
  | .eq => eqM μ a b
  | .ne => (eqM μ a b).map (!·)
  | .lt => intC (fun i j => decide (i < j)) a b
  | .le => intC (fun i j => decide (i ≤ j)) a b
  | .gt => intC (fun i j => decide (j < i)) a b
  | .ge => intC (fun i j => decide (j ≤ i)) a b
  | .isn => (match b with | .non => some (isNon a) | _ => none)
  | .nisn => (match b with | .non => some (!isNon a) | _ => none)
  | .mem => inM μ a b
  | .nmem => (inM μ a b).map (!·)

def idxM (μ : Sto) (a i : PV) : Option PV := match a, i with
  | .tup l, .int k => L2.atI l k
  | .str s, .int k => if s.length ≤ SZ then (L2.atI s.cps.toList k).map fun c => .str ⟨#[c]⟩ else none
  | .lv l, .int k => L2.atI l k
  | .ref r, .int k => (match μ[r]? with
    | some (.lst l) => L2.atI l k
    | _ => none)
  | .dv ks vs, k => (keyOf k).bind (lookK ks vs)
  | .ref r, .str k => (match μ[r]? with
    | some (.dct ks vs) => lookK ks vs (.inr k)
    | _ => none)
  | _, _ => none

def cutL (xs : List PV) (lo hi : Option Int) : List PV := (xs.drop (HT.sIx xs.length 0 lo)).take (HT.sIx xs.length xs.length hi - HT.sIx xs.length 0 lo)

def tyOf (μ : Sto) (a : PV) (t : Ty) : Option Bool := match a with
  | .non => some false
  | .bl _ => some (t == .int || t == .bool)
  | .int _ => some (t == .int)
  | .str _ => some (t == .str)
  | .tup _ => some (t == .tup)
  | .lv _ => some (t == .lst)
  | .dv _ _ => some false
  | .ref r => (match μ[r]? with
    | some (.lst _) => some (t == .lst)
    | some (.dct _ _) => some false
    | none => none)
  | _ => none

end OL
namespace OL
open PySem
/-! ### sorted -/
/-- what may be sorted: data of one form, tuples or none, not deep -/
def sortOk (ds : List PyData) : Bool := (ds.all fun d => ds.all fun e => PySem.W.alike d e) && (ds.all fun d => decide (d.depth ≤ 64)) &&
  ((ds.all fun d => match d with | .tuple (_ :: _) => true | _ => false) || (ds.all fun d => match d with | .none => false | .tuple _ => false | _ => true))
/-- two rows merged, n turns at most -/
def mgF {α : Type} (le : α → α → Bool) : Nat → List α → List α → List α
  | 0, xs, ys => xs ++ ys
  | n + 1, [], ys => ys
  | n + 1, x :: xs, [] => x :: xs
  | n + 1, x :: xs, y :: ys => if le x y = true then x :: mgF le n xs (y :: ys) else y :: mgF le n (x :: xs) ys
theorem mgF_eq {α : Type} (le : α → α → Bool) : ∀ (n : Nat) (xs ys : List α), xs.length + ys.length ≤ n → mgF le n xs ys = List.merge xs ys le
  | 0, xs, ys, h => by
    have e1 : xs = [] := List.eq_nil_of_length_eq_zero (by omega)
    have e2 : ys = [] := List.eq_nil_of_length_eq_zero (by omega)
    subst e1; subst e2
    simp [mgF]
  | n + 1, [], ys, h => by simp [mgF]
  | n + 1, x :: xs, [], h => by simp [mgF]
  | n + 1, x :: xs, y :: ys, h => by
    simp only [List.length_cons] at h
    rw [mgF, List.merge, mgF_eq le n xs (y :: ys) (by simp; omega), mgF_eq le n (x :: xs) ys (by simp; omega)]
/-- a row sorted by halves, n deep at most -/
def msF {α : Type} (le : α → α → Bool) : Nat → List α → List α
  | 0, l => l
  | n + 1, [] => []
  | n + 1, [a] => [a]
  | n + 1, a :: b :: xs => mgF le (xs.length + 2) (msF le n (List.take ((xs.length + 3) / 2) (a :: b :: xs))) (msF le n (List.drop ((xs.length + 3) / 2) (a :: b :: xs)))
theorem msF_eq {α : Type} (le : α → α → Bool) : ∀ (n : Nat) (l : List α), l.length ≤ n → msF le n l = l.mergeSort le
  | 0, l, h => by
    have e1 : l = [] := List.eq_nil_of_length_eq_zero (by omega)
    subst e1
    simp [msF]
  | n + 1, [], h => by simp [msF]
  | n + 1, [a], h => by simp [msF]
  | n + 1, a :: b :: xs, h => by
    simp only [List.length_cons] at h
    rw [msF, msF_eq le n _ (by simp; omega), msF_eq le n _ (by simp; omega), mgF_eq le _ _ _ (by simp; omega), List.mergeSort]
    simp [List.MergeSort.Internal.splitInTwo, List.splitAt_eq]
def sortedM (μ : Sto) (l : List PV) : Option (List PV) := (datsS (refD 6 μ) l).bind fun ds => if sortOk ds = true then some ((msF (PySem.W.dataLe false (·.2)) l.length (l.zip ds)).map (·.1)) else none
theorem sortedM_def (μ : Sto) (l : List PV) : sortedM μ l = (datsS (refD 6 μ) l).bind fun ds => if sortOk ds = true then some (((l.zip ds).mergeSort (PySem.W.dataLe false (·.2))).map (·.1)) else none := by
  unfold sortedM
  congr 1
  funext ds
  rw [msF_eq _ _ _ (by rw [List.length_zip]; omega)]

/-! ### what is walked -/
def rgLen (a b c : Int) : Nat := if c = 1 then (b - a).toNat else (Builtin.Range.rangeSize a b c).toNat
def rgOk (a b c : Int) : Bool := decide (a.natAbs < 2 ^ 61) && decide (b.natAbs < 2 ^ 61) && (decide (c = 1) || (decide (c ≠ 0) && decide (c.natAbs < 1073741824) && Builtin.Range.small a b c && decide (Builtin.Range.rangeSize a b c = rgLen a b c)))
/-- the k-th item; some none: no more -/
def itAt (μ : Sto) : PV → Nat → Option (Option PV)
  | .tup l, k => some l[k]?
  | .lv l, k => some l[k]?
  | .sc l, k => some l[k]?
  | .ref i, k => (match μ[i]? with
    | some (.lst l) => some l[k]?
    | _ => none)
  | .rg a b c, k => if rgOk a b c then some (if k < rgLen a b c then some (.int (a + k * c)) else none) else none
  | .enu v s, k => (itAt μ v k).map fun o => o.map fun x => .tup [.int (s + k), x]
  | .str s, k => some ((s.cps[k]?).map fun c => .str ⟨#[c]⟩)
  | _, _ => none
def itLen (μ : Sto) : PV → Nat
  | .tup l => l.length
  | .lv l => l.length
  | .sc l => l.length
  | .ref i => (match μ[i]? with
    | some (.lst l) => l.length
    | _ => 0)
  | .rg a b c => rgLen a b c
  | .enu v _ => itLen μ v
  | .str s => s.length
  | _ => 0
/-- what can be walked -/
def itOk (μ : Sto) : PV → Bool
  | .tup _ => true
  | .lv _ => true
  | .sc _ => true
  | .ref i => (match μ[i]? with
    | some (.lst _) => true
    | _ => false)
  | .rg a b c => rgOk a b c && decide (c = 1)
  | .enu v s => decide (s = 0) && (match v with
    | .tup _ => true
    | .lv _ => true
    | .sc _ => true
    | .ref i => (match μ[i]? with
      | some (.lst _) => true
      | _ => false)
    | _ => false)
  | _ => false
def itR (v : PV) (μ : Sto) : Res PV := if itOk μ v = true then .ok v μ else .err
/-- all items, of what does not change -/
def itAll (μ : Sto) : PV → Option (List PV)
  | .tup l => some l
  | .lv l => some l
  | .ref i => (match μ[i]? with
    | some (.lst l) => some l
    | _ => none)
  | .rg a b c => if rgOk a b c then some ((List.range (rgLen a b c)).map fun k : Nat => .int (a + k * c)) else none
  | _ => none

mutual
def assT : Tg → PV → Env → Option Env
  | .nm i, v, env => if i < env.length then some (env.set i (some v)) else none
  | .tp l, .tup vs, env => assTs l vs env
  | .tp _, _, _ => none
def assTs : List Tg → List PV → Env → Option Env
  | [], [], env => some env
  | t :: ts, v :: vs, env => (assT t v env).bind (assTs ts vs)
  | _, _, _ => none
end

/-! ### built-ins -/
def intsOf : List PV → Option (List Int)
  | [] => some []
  | .int i :: r => (intsOf r).map (i :: ·)
  | _ :: _ => none
def boolsOf : List PV → Option (List Bool)
  | [] => some []
  | .bl b :: r => (boolsOf r).map (b :: ·)
  | _ :: _ => none
def minI : List Int → Option Int
  | [] => none
  | a :: r => some (r.foldl min a)
def maxI : List Int → Option Int
  | [] => none
  | a :: r => some (r.foldl max a)
/-- two or three whole numbers, or one list of them -/
def manyI (μ : Sto) : List PV → Option (List Int)
  | [.tup l] => intsOf l
  | [v] => (lstM μ v).bind intsOf
  | [.int i, .int j] => some [i, j]
  | [.int i, .int j, .int k] => some [i, j, k]
  | _ => none

def lenM (μ : Sto) : PV → Option Nat
  | .tup l => some l.length
  | .lv l => some l.length
  | .sc l => some l.length
  | .dv ks _ => some ks.length
  | .str s => if s.length ≤ SZ then some s.length else none
  | .ref i => (match μ[i]? with
    | some (.lst l) => some l.length
    | some (.dct ks _) => some ks.length
    | none => none)
  | _ => none

def bltM (b : Bi) (l : List PV) (μ : Sto) : Res PV := match b with
  | .len => (match l with
    | [v] => Res.opt ((lenM μ v).map fun n => .int n) μ
    | _ => .err)
  | .tuple => (match l with
    | [v] => Res.opt (itAll μ v |>.bind fun l => if l.length ≤ SZ then some (.tup l) else none) μ
    | _ => .err)
  | .list => (match l with
    | [v] => (match itAll μ v with
      | some l => newL l μ
      | none => .err)
    | _ => .err)
  | .sum => (match l with
    | [v] => Res.opt ((lstM μ v).bind fun l => (intsOf l).map fun is => .int is.sum) μ
    | _ => .err)
  | .min => Res.opt ((manyI μ l).bind fun is => (minI is).map .int) μ
  | .max => Res.opt ((manyI μ l).bind fun is => (maxI is).map .int) μ
  | .abs => (match l with
    | [.int i] => .ok (.int i.natAbs) μ
    | _ => .err)
  | .sorted => (match l with
    | [v] => (match (itAll μ v).bind (sortedM μ) with
      | some l => newL l μ
      | none => .err)
    | _ => .err)
  | .any => (match l with
    | [v] => Res.opt ((lstM μ v).bind fun l => (boolsOf l).map fun bs => .bl (bs.any id)) μ
    | _ => .err)
  | .all => (match l with
    | [v] => Res.opt ((lstM μ v).bind fun l => (boolsOf l).map fun bs => .bl (bs.all id)) μ
    | _ => .err)
  | .int => (match l with
    | [.int i] => .ok (.int i) μ
    | [.bl b] => .ok (.int (if b then 1 else 0)) μ
    | _ => .err)
  | .repr => (match l with
    | [v] => Res.opt ((datM μ v).bind fun d => if d.showable = true ∧ d.shown.length ≤ SZ ∧ d.depth ≤ 64 then some (.str d.shown) else none) μ
    | _ => .err)
  | .gcd => (match l with
    | [.int i, .int j] => .ok (.int (Int.gcd i j)) μ
    | _ => .err)
  | .str => .err
  | .isqrt => .err

/-- methods that give a value and change nothing; those that change the store -/
def metM (m : Me) (o : PV) (l : List PV) (μ : Sto) : Res PV := match m, o, l with
  | .get, .dv ks vs, [k, d] => Res.opt ((keyOf k).map fun k => (lookK ks vs k).getD d) μ
  | .get, .dv ks vs, [k] => Res.opt ((keyOf k).map fun k => (lookK ks vs k).getD .non) μ
  | .append, .ref i, [v] => (match μ[i]? with
    | some (.lst l) => if l.length < SZ then .ok .non (μ.set i (.lst (l ++ [v]))) else .err
    | _ => .err)
  | _, _, _ => .err
end OL
end
section
set_option Elab.async false
set_option linter.all false
set_option maxRecDepth 100000
/-! OL, part c: what expressions and statements compute. -/
namespace OL
open PySem

/-- what calls compute; the module's constants; how often a while may turn; which class lies below which -/
structure CF where
  call : Nat → List PV → Sto → Res PV
  clo : Nat → List PV → List PV → Sto → Res PV
  glo : Nat → PV
  fuel : Nat
  sub : Nat → Nat → Bool

/-- a loop over v from its k-th item on, n more items at most -/
def walk (f : PV → Sto → Res Unit) (v : PV) : Nat → Nat → Sto → Res Unit
  | n, k, μ => match itAt μ v k with
    | some none => .ok () μ
    | some (some x) => (match n with
      | 0 => .err
      | n + 1 => (f x μ).bind fun _ μ' => walk f v n (k + 1) μ')
    | none => .err
/-- the same, gathering -/
def gather {α : Type} (f : PV → α → Sto → Res α) (v : PV) : Nat → Nat → α → Sto → Res α
  | n, k, a, μ => match itAt μ v k with
    | some none => .ok a μ
    | some (some x) => (match n with
      | 0 => .err
      | n + 1 => (f x a μ).bind fun a' μ' => gather f v n (k + 1) a' μ')
    | none => .err

/-- own slots forgotten -/
def wipeE (env : Env) : List Nat → Env
  | [] => env
  | i :: r => (wipeE env r).set i none

def plain : PV → Option PV
  | .own _ => none
  | .exc _ _ => none
  | .clo _ _ => none
  | v => some v
def unown : PV → Option PV
  | .own v => some v
  | _ => none
def disown : PV → PV
  | .own v => v
  | v => v
def slot (env : Env) (i : Nat) : Option PV := (env[i]?).join
def boxV (v : PV) (μ : Sto) : Res PV := match v with
  | .lv l => .ok (.ref μ.length) (μ ++ [.lst l])
  | .dv ks vs => .ok (.ref μ.length) (μ ++ [.dct ks vs])
  | _ => .err
/-- truth, as a result -/
def trR (v : PV) (μ : Sto) : Res Bool := Res.opt (truth μ v) μ
/-- one item more -/
def snocL (acc : List PV) (v : PV) (μ : Sto) : Res (List PV) := if acc.length < SZ then .ok (acc ++ [v]) μ else .err
def putR (acc : List Ky × List PV) (y z : PV) (μ : Sto) : Res (List Ky × List PV) := match keyOf y with
  | some k => if acc.1.length < SZ then .ok (putK acc.1 acc.2 k z) μ else .err
  | none => .err
def rgOf : List PV → Option PV
  | [.int b] => some (.rg 0 b 1)
  | [.int a, .int b] => some (.rg a b 1)
  | [.int a, .int b, .int c] => some (.rg a b c)
  | _ => none
def cutM (a : PV) (lo hi : Option Int) : Option PV := match a with
  | .tup l => some (.tup (cutL l lo hi))
  | .lv l => some (.lv (cutL l lo hi))
  | .str s => if s.length ≤ SZ then some (.str (L2.cutS s lo hi)) else none
  | _ => none
/-- keys and values in turn, into a dict -/
def disD : List PV → List Ky × List PV → Option (List Ky × List PV)
  | [], d => some d
  | k :: v :: r, d => (keyOf k).bind fun k => disD r (putK d.1 d.2 k v)
  | _, _ => none

/-- what has such a method -/
def metOk (m : Me) (x : PV) : Bool := match m, x with
  | .get, .dv _ _ => true
  | .append, .ref _ => true
  | _, _ => false

section
variable (cf : CF)
mutual
def evE : E → Env → Sto → Res PV
  | .con v, _, μ => .ok v μ
  | .var i, env, μ => Res.opt ((slot env i).bind plain) μ
  | .own i, env, μ => Res.opt ((slot env i).bind unown) μ
  | .glo n, _, μ => .ok (cf.glo n) μ
  | .bin o a b, env, μ => (evE a env μ).bind fun x μ => (evE b env μ).bind fun y μ => binOp o x y μ
  | .neg a, env, μ => (evE a env μ).bind fun x μ => (match x with
    | .int i => .ok (.int (-i)) μ
    | _ => .err)
  | .not a, env, μ => (evE a env μ).bind fun x μ => (trR x μ).bind fun b μ => .ok (.bl (!b)) μ
  | .and a b, env, μ => (evE a env μ).bind fun x μ => (trR x μ).bind fun t μ => if t = true then evE b env μ else .ok x μ
  | .or a b, env, μ => (evE a env μ).bind fun x μ => (trR x μ).bind fun t μ => if t = true then .ok x μ else evE b env μ
  | .ife c a b, env, μ => (evE c env μ).bind fun x μ => (trR x μ).bind fun t μ => if t = true then evE a env μ else evE b env μ
  | .cmp o a b, env, μ => (evE a env μ).bind fun x μ => (evE b env μ).bind fun y μ => Res.opt ((cmpOp o x y μ).map .bl) μ
  | .chn o p a b c, env, μ => (evE a env μ).bind fun x μ => (evE b env μ).bind fun y μ => (Res.opt (cmpOp o x y μ) μ).bind fun t μ =>
      if t = true then (evE c env μ).bind fun z μ => Res.opt ((cmpOp p y z μ).map .bl) μ else .ok (.bl false) μ
  | .tup l, env, μ => (evEs l env μ).bind fun vs μ => if vs.length ≤ SZ then .ok (.tup vs) μ else .err
  | .lst l, env, μ => (evEs l env μ).bind fun vs μ => if vs.length ≤ SZ then .ok (.lv vs) μ else .err
  | .dic l, env, μ => (evEs l env μ).bind fun vs μ => if vs.length ≤ 30 then Res.opt ((disD vs ([], [])).map fun d => .dv d.1 d.2) μ else .err
  | .box e, env, μ => (evE e env μ).bind boxV
  | .idx a i, env, μ => (evE a env μ).bind fun x μ => (evE i env μ).bind fun y μ => Res.opt (idxM μ x y) μ
  | .slc a lo hi, env, μ => (evE a env μ).bind fun x μ => (evO lo env μ).bind fun i μ => (evO hi env μ).bind fun j μ => Res.opt (cutM x i j) μ
  | .isi a t, env, μ => (evE a env μ).bind fun x μ => Res.opt ((tyOf μ x t).map .bl) μ
  | .call f l, env, μ => (evEs l env μ).bind fun vs μ => (cf.call f vs μ).bind fun r μ => .ok (disown r) μ
  | .calo f l, env, μ => (evEs l env μ).bind fun vs μ => (cf.call f vs μ).bind fun r μ => Res.opt (unown r) μ
  | .cav i l, env, μ => (Res.opt ((slot env i).bind plain) μ).bind fun f μ => (evEs l env μ).bind fun vs μ => (match f with
    | .fn g => (cf.call g vs μ).bind fun r μ => .ok (disown r) μ
    | .clo k cs => (cf.clo k cs vs μ).bind fun r μ => .ok (disown r) μ
    | _ => .err)
  | .blt b l, env, μ => (evEs l env μ).bind fun vs μ => bltM b vs μ
  | .met m o l, env, μ => (evE o env μ).bind fun x μ => if metOk m x = true then (evEs l env μ).bind fun vs μ => metM m x vs μ else .err
  | .fld i c n, env, μ => (match slot env i with
    | some (.exc c' fs) => if c' = c then Res.opt fs[n]? μ else .err
    | _ => .err)
  | .rng l, env, μ => (evEs l env μ).bind fun vs μ => Res.opt (rgOf vs) μ
  | .enu a s, env, μ => (evE a env μ).bind fun x μ => (evO s env μ).bind fun i μ => .ok (.enu x (i.getD 0)) μ
  | .comp elt tg it ifs vs, env, μ => ((evE it env μ).bind itR).bind fun src μ =>
      ((gather (fun x acc μ => (Res.opt (assT tg x (wipeE env vs)) μ).bind fun env' μ =>
          (evIf ifs env' μ).bind fun t μ => if t = true then (evE elt env' μ).bind (snocL acc) else .ok acc μ)
        src (itLen μ src) 0 [] μ).calm).bind fun l μ => .ok (.lv l) μ
  | .com2 elt tg it ifs tg2 it2 ifs2 vs vs2, env, μ => ((evE it env μ).bind itR).bind fun src μ =>
      ((gather (fun x acc μ => (Res.opt (assT tg x (wipeE env vs)) μ).bind fun env' μ =>
          (evIf ifs env' μ).bind fun t μ => if t = true then ((evE it2 env' μ).bind itR).bind (fun src2 μ =>
              gather (fun x acc μ => (Res.opt (assT tg2 x (wipeE env' vs2)) μ).bind fun env2 μ =>
                (evIf ifs2 env2 μ).bind fun t μ => if t = true then (evE elt env2 μ).bind (snocL acc) else .ok acc μ)
              src2 (itLen μ src2) 0 acc μ) else .ok acc μ)
        src (itLen μ src) 0 [] μ).calm).bind fun l μ => .ok (.lv l) μ
  | .dcm k v tg it vs, env, μ => ((evE it env μ).bind itR).bind fun src μ =>
      ((gather (fun x acc μ => (Res.opt (assT tg x (wipeE env vs)) μ).bind fun env' μ =>
          (evE k env' μ).bind fun y μ => (evE v env' μ).bind fun z μ => putR acc y z μ)
        src (itLen μ src) 0 (([], []) : List Ky × List PV) μ).calm).bind fun d μ => .ok (.dv d.1 d.2) μ
def evEs : List E → Env → Sto → Res (List PV)
  | [], _, μ => .ok [] μ
  | e :: r, env, μ => (evE e env μ).bind fun v μ => (evEs r env μ).bind fun vs μ => .ok (v :: vs) μ
def evO : Option E → Env → Sto → Res (Option Int)
  | none, _, μ => .ok none μ
  | some e, env, μ => (evE e env μ).bind fun v μ => (match v with
    | .int i => .ok (some i) μ
    | _ => .err)
def evIf : Option E → Env → Sto → Res Bool
  | none, _, μ => .ok true μ
  | some e, env, μ => (evE e env μ).bind trR
end
end
/-! ### statements -/
inductive Flow where | nx | rt (v : PV) | bk | ct | ro (v : PV)
inductive Out where
  | ok (f : Flow) (env : Env) (m : Sto)
  | exc (c : Nat) (fs : List PV) (env : Env) (m : Sto)
  | err
/-- a value computed, then what follows -/
def Res.thn {α : Type} (r : Res α) (env : Env) (f : α → Sto → Out) : Out := match r with
  | .ok a m => f a m
  | .exc c fs m => .exc c fs env m
  | .err => .err
@[simp] theorem Res.thn_ok {α : Type} (a : α) (m : Sto) (env : Env) (f : α → Sto → Out) : (Res.ok a m).thn env f = f a m := rfl
@[simp] theorem Res.thn_exc {α : Type} (c : Nat) (fs : List PV) (m : Sto) (env : Env) (f : α → Sto → Out) : (Res.exc c fs m : Res α).thn env f = .exc c fs env m := rfl
/-- a block goes on -/
def Out.seq (r : Out) (f : Env → Sto → Out) : Out := match r with
  | .ok .nx env m => f env m
  | r => r
@[simp] theorem Out.seq_nx (env : Env) (m : Sto) (f : Env → Sto → Out) : (Out.ok .nx env m).seq f = f env m := rfl
@[simp] theorem Out.seq_ro (v : PV) (env : Env) (m : Sto) (f : Env → Sto → Out) : (Out.ok (.ro v) env m).seq f = .ok (.ro v) env m := rfl
@[simp] theorem Out.seq_rt (v : PV) (env : Env) (m : Sto) (f : Env → Sto → Out) : (Out.ok (.rt v) env m).seq f = .ok (.rt v) env m := rfl
/-- no error leaves an except suite -/
def Out.calm (r : Out) : Out := match r with
  | .ok f env m => .ok f env m
  | _ => .err
def noExc (env : Env) : Bool := env.all fun
  | some (.exc _ _) => false
  | _ => true
/-- the name of an except clause goes -/
def Out.gone (i : Nat) (r : Out) : Out := match r with
  | .ok (.rt v) env m => .ok (.rt v) (env.map fun _ => none) m
  | .ok (.ro _) _ _ => .err
  | .ok f env m => if noExc (env.set i none) = true then .ok f (env.set i none) m else .err
  | _ => .err
def nxO (o : Option Env) (m : Sto) : Out := match o with
  | some env => .ok .nx env m
  | none => .err
@[simp] theorem nxO_some (env : Env) (m : Sto) : nxO (some env) m = .ok .nx env m := rfl
def whlF (t : Env → Sto → Res Bool) (b : Env → Sto → Out) : Nat → Env → Sto → Out
  | 0, _, _ => .err
  | n + 1, env, μ => (t env μ).thn env fun c μ => if c = true then (match b env μ with
    | .ok .nx env μ => whlF t b n env μ
    | .ok .ct env μ => whlF t b n env μ
    | .ok .bk env μ => .ok .nx env μ
    | r => r) else .ok .nx env μ
def forF (asn : PV → Env → Option Env) (b : Env → Sto → Out) (v : PV) : Nat → Nat → Env → Sto → Out
  | n, k, env, μ => match itAt μ v k with
    | some none => .ok .nx env μ
    | some (some x) => (match n with
      | 0 => .err
      | n + 1 => match asn x env with
        | none => .err
        | some env => match b env μ with
          | .ok .nx env μ => forF asn b v n (k + 1) env μ
          | .ok .ct env μ => forF asn b v n (k + 1) env μ
          | .ok .bk env μ => .ok .nx env μ
          | r => r)
    | none => .err
/-- o[i] = v, in the store -/
def setM (o i v : PV) (μ : Sto) : Option Sto := match o with
  | .ref r => (match μ[r]? with
    | some (.lst l) => (match i with
      | .int k => (L2.ixN l.length k).map fun j => μ.set r (.lst (l.set j v))
      | _ => none)
    | some (.dct ks vs) => (match i with
      | .str k => if ks.length < 1000 then some (μ.set r (.dct (putK ks vs (.inr k) v).1 (putK ks vs (.inr k) v).2)) else none
      | _ => none)
    | none => none)
  | _ => none
/-- x[i] = v, x of the def's own -/
def setV (o i v : PV) : Option PV := match o with
  | .lv l => (match i with
    | .int k => (L2.ixN l.length k).map fun j => .lv (l.set j v)
    | _ => none)
  | .dv ks vs => (keyOf i).bind fun k => if ks.length < SZ then some (.dv (putK ks vs k v).1 (putK ks vs k v).2) else none
  | _ => none
def setSlot (env : Env) (i : Nat) (v : PV) : Option Env := if i < env.length then some (env.set i (some v)) else none
/-- several names at once; true: a list of the def's own -/
def assPar : List (Nat × Bool) → List PV → Env → Option Env
  | [], [], env => some env
  | (i, o) :: ts, v :: vs, env => (setSlot env i (if o = true then .own v else v)).bind (assPar ts vs)
  | _, _, _ => none
def getO (env : Env) (i : Nat) : Option PV := (slot env i).bind unown
def setO (env : Env) (i : Nat) (v : PV) : Option Env := setSlot env i (.own v)
def augM (b : Bop) (x v : PV) (μ : Sto) : Res PV := match x, v with
  | .int a, .int c => binOp b (.int a) (.int c) μ
  | _, _ => .err
def extV (o v : PV) : Option PV := match o, v with
  | .lv l, .lv r => if l.length + r.length ≤ SZ then some (.lv (l ++ r)) else none
  | _, _ => none
def appV (o v : PV) : Option PV := match o with
  | .lv l => if l.length < SZ then some (.lv (l ++ [v])) else none
  | _ => none

section
variable (cf : CF)
mutual
def evS : S → Env → Sto → Out
  | .expr e, env, μ => (evE cf e env μ).thn env fun _ μ => .ok .nx env μ
  | .asg t e, env, μ => (evE cf e env μ).thn env fun v μ => nxO (assT t v env) μ
  | .par ts es, env, μ => (evEs cf es env μ).thn env fun vs μ => nxO (assPar ts vs env) μ
  | .asi o i e, env, μ => (evE cf e env μ).thn env fun v μ => (evE cf o env μ).thn env fun x μ => (evE cf i env μ).thn env fun k μ => (match setM x k v μ with
      | some μ => .ok .nx env μ
      | none => .err)
  | .oasg i e, env, μ => (evE cf e env μ).thn env fun v μ => nxO (setO env i v) μ
  | .oap i e, env, μ => (match getO env i with
      | some (.lv l) => (evE cf e env μ).thn env fun v μ => nxO ((appV (.lv l) v).bind (setO env i)) μ
      | _ => .err)
  | .oex i e, env, μ => (match getO env i with
      | some (.lv l) => (evE cf e env μ).thn env fun v μ => nxO ((extV (.lv l) v).bind (setO env i)) μ
      | _ => .err)
  | .osi i k e, env, μ => (evE cf e env μ).thn env fun v μ => (match getO env i with
      | some x => (evE cf k env μ).thn env fun k μ => nxO ((setV x k v).bind (setO env i)) μ
      | none => .err)
  | .oag i k o e, env, μ => (evE cf k env μ).thn env fun k μ => (Res.opt ((getO env i).bind fun x => idxM μ x k) μ).thn env fun old μ =>
      (evE cf e env μ).thn env fun v μ => (binOp o old v μ).thn env fun v μ => nxO ((getO env i).bind fun x => (setV x k v).bind (setO env i)) μ
  | .opo t i, env, μ => (match getO env i with
      | some (.lv l) => (match l.getLast? with
        | some v => nxO ((setO env i (.lv l.dropLast)).bind (assT t v)) μ
        | none => .err)
      | _ => .err)
  | .aug i o e, env, μ => (Res.opt ((slot env i).bind plain) μ).thn env fun x μ => (evE cf e env μ).thn env fun v μ => (augM o x v μ).thn env fun v μ => nxO (setSlot env i v) μ
  | .iff c a b, env, μ => ((evE cf c env μ).bind trR).thn env fun t μ => if t = true then evSs a env μ else evSs b env μ
  | .whl c b, env, μ => whlF (fun env μ => (evE cf c env μ).bind trR) (evSs b) cf.fuel env μ
  | .forr t it b, env, μ => ((evE cf it env μ).bind itR).thn env fun v μ => forF (assT t) (evSs b) v (itLen μ v) 0 env μ
  | .ret none, env, μ => .ok (.rt .non) env μ
  | .ret (some (.own i)), env, μ => (match getO env i with
      | some v => .ok (.ro v) env μ
      | none => .err)
  | .ret (some e), env, μ => (evE cf e env μ).thn env fun v μ => .ok (.rt v) env μ
  | .rai c l, env, μ => (evEs cf l env μ).thn env fun vs μ => .exc c vs env μ
  | .brk, env, μ => .ok .bk env μ
  | .cnt, env, μ => .ok .ct env μ
  | .pas, env, μ => .ok .nx env μ
  | .nev, _, _ => .err
  | .obx i e, env, μ => (evE cf e env μ).thn env fun v μ => (boxV v μ).thn env fun v μ => nxO (setSlot env i v) μ
  | .abx o i e, env, μ => (evE cf e env μ).thn env fun v μ => (boxV v μ).thn env fun v μ => (evE cf o env μ).thn env fun x μ => (evE cf i env μ).thn env fun k μ => (match setM x k v μ with
      | some μ => .ok .nx env μ
      | none => .err)
  | .trt b, env, μ => (match evSs b env μ with
      | .exc _ _ _ _ => .err
      | r => r)
  | .tri b hs, env, μ => (match evSs b env μ with
      | .exc c fs env μ => evHs hs c fs env μ
      | r => r)
  | .hdl _ _ _, _, _ => .err
def evSs : List S → Env → Sto → Out
  | [], env, μ => .ok .nx env μ
  | s :: r, env, μ => (evS s env μ).seq (evSs r)
/-- the clauses, one after another -/
def evHs : List S → Nat → List PV → Env → Sto → Out
  | [], c, fs, env, μ => .exc c fs env μ
  | h :: r, c, fs, env, μ => evH h c fs env μ (evHs r c fs env μ)
def evH : S → Nat → List PV → Env → Sto → Out → Out
  | .hdl cs i b, c, fs, env, μ, no => if cs.any (cf.sub c) = true then (match i with
      | none => (evSs b env μ).calm
      | some i => (evSs b (env.set i (some (.exc c fs))) μ).gone i) else no
  | _, _, _, _, _, _ => .err
end
end

/-! ### defs, the program -/
/-- the entry of a def -/
def entry (n : Nat) (vs : List PV) : Env := vs.map some ++ List.replicate (n - vs.length) none
def outR (r : Out) : Res PV := match r with
  | .ok (.rt v) _ μ => .ok v μ
  | .ok (.ro v) _ μ => .ok (.own v) μ
  | .ok .nx _ μ => .ok .non μ
  | .exc c fs _ μ => .exc c fs μ
  | _ => .err
/-- calls, d of them one in another at most -/
def cfN (P : Prog) : Nat → CF
  | 0 => ⟨fun _ _ _ => .err, fun _ _ _ _ => .err, fun n => P.glos.getD n .non, P.fuel, P.sub⟩
  | d + 1 => ⟨fun f vs μ => (match P.funs[f]? with
      | some D => if vs.length = D.npar then outR (evSs (cfN P d) D.body (entry D.nslot vs) μ) else .err
      | none => .err),
    fun k cs vs μ => (match P.lams[k]? with
      | some L => if vs.length = L.npar then evE (cfN P d) L.body (entry 0 (vs ++ cs)) μ else .err
      | none => .err), fun n => P.glos.getD n .non, P.fuel, P.sub⟩
end OL
end
section
set_option Elab.async false
set_option linter.all false
set_option maxRecDepth 100000
/-! OL, part d: how values, slots, the store lie in HandS's abstract heap. -/
namespace OL
open PySem PySem.Spec PyProof.Rows L2

/-- what is fixed: the written part, the defs' and classes' addresses, the classes' fields; the error that is being handled: its address, class, dict -/
structure RC where
  K : PySem.W.Frag
  fa : Nat → Addr
  ca : Nat → Addr
  nm : Nat → List Str
  ex : Option (Addr × Nat × Option Addr)
  ncl : Nat
  clo : List (Addr × Nat × List V)

/-- what stays of a tracked thing: all but the lists and dicts of W -/
def Kp (W : List Addr) (a : Addr) : HO → Prop
  | .tup _ => True
  | .frz _ _ => True
  | .xd _ => True
  | .ext _ => True
  | .lst _ => a ∉ W
  | .dK _ => a ∉ W
  | _ => False
def HExt (W : List Addr) (H H' : Hp) : Prop := ∀ a o, H a = some o → Kp W a o → H' a = some o
theorem HExt.refl {W : List Addr} {H : Hp} : HExt W H H := fun _ _ h _ => h
theorem Kp.mono {W W' : List Addr} {a : Addr} {o : HO} (k : Kp W a o) (h : a ∈ W' → a ∈ W) : Kp W' a o := by
  cases o <;> first | exact k | exact fun z => k (h z)

/-- a list that nobody changes: frozen, or of the written part -/
def SqF (K : PySem.W.Frag) (H : Hp) (a : Addr) (xs : List V) : Prop := (∃ o, H a = some (.frz o (.lst xs))) ∨
  ∃ (o : Obj) (its : Array Value) (n : Nat), K.lookup a = some o ∧ o.cls = .type "list" ∧ o.dict = none ∧ o.data = .seq its n ∧ its.size ≤ sizeLine ∧ Vals xs its.toList
theorem SqF.sqL {K : PySem.W.Frag} {H : Hp} {a : Addr} {xs : List V} (h : SqF K H a xs) : SqL K H a xs := h.imp (fun ⟨o, h⟩ => .inr ⟨o, h⟩) id
section
variable (C : RC) (M π : List Addr) (H : Hp)
mutual
def RV : PV → V → Prop
  | .non, u => u = .non
  | .bl b, u => u = .bl b
  | .int i, u => u = .int i
  | .str s, u => u = .str s
  | .tup l, u => ∃ a xs, u = .ref a ∧ SqT C.K H a xs ∧ RVs l xs
  | .lv l, u => ∃ a xs, u = .ref a ∧ a ∉ M ∧ H a = some (.lst xs) ∧ RVs l xs
  | .dv ks vs, u => ∃ (a : Addr) (xs : List V), u = .ref a ∧ a ∉ M ∧ H a = some (.dK (ks.zip xs)) ∧ ks.length = xs.length ∧ RVs vs xs
  | .ref i, u => ∃ a, π[i]? = some a ∧ u = .ref a
  | .fn f, u => u = .ref (C.fa f)
  | .exc _ _, _ => False
  | .clo _ _, _ => False
  | .sc l, u => ∃ a xs, u = .ref a ∧ SqF C.K H a xs ∧ RVs l xs
  | .rg _ _ _, _ => False
  | .enu _ _, _ => False
  | .own _, _ => False
def RVs : List PV → List V → Prop
  | [], xs => xs = []
  | v :: r, xs => ∃ x xs', xs = x :: xs' ∧ RV v x ∧ RVs r xs'
end
/-- a value that is only looked at: a list of the def's own too -/
def RW : PV → V → Prop
  | .lv l, u => ∃ a xs, u = .ref a ∧ a ∉ π ∧ H a = some (.lst xs) ∧ RVs C M π H l xs
  | .dv ks vs, u => ∃ (a : Addr) (xs : List V), u = .ref a ∧ a ∉ π ∧ H a = some (.dK (ks.zip xs)) ∧ ks.length = xs.length ∧ RVs C M π H vs xs
  | v, u => RV C M π H v u
/-- the list, the dict at a -/
def RO (a : Addr) : PV → Prop
  | .lv l => ∃ xs, H a = some (.lst xs) ∧ RVs C M π H l xs
  | .dv ks vs => ∃ xs : List V, H a = some (.dK (ks.zip xs)) ∧ ks.length = xs.length ∧ RVs C M π H vs xs
  | _ => False
/-- a thing of the store at a -/
def RS (a : Addr) : SO → Prop
  | .lst l => RO C M π H a (.lv l)
  | .dct ks vs => RO C M π H a (.dv ks vs)
end

/-- from one moment to a later one: nothing but the store's things has changed -/
structure St (M π : List Addr) (H : Hp) (M' π' : List Addr) (H' : Hp) : Prop where
  pre : ∃ r, π' = π ++ r
  sub : ∀ a ∈ M, a ∈ M'
  new : ∀ b ∈ M', b ∈ M ∨ H b = none
  ext : HExt π H H'
  nw2 : ∀ b ∈ π', b ∈ π ∨ H b = none
  bk : ∀ b, H' b = none → H b = none
theorem St.refl {M π : List Addr} {H : Hp} : St M π H M π H := ⟨⟨[], by simp⟩, fun _ h => h, fun _ h => .inl h, HExt.refl, fun _ h => .inl h, fun _ h => h⟩
theorem HExt.none_of {W : List Addr} {H H' : Hp} {b : Addr} (e : HExt W H H') (h : H' b = none) : ∀ o, H b = some o → ¬ Kp W b o := fun o ho k => by
  rw [e b o ho k] at h
  cases h

section
variable {C : RC} {M π M' π' : List Addr} {H H' : Hp}
theorem sqT_ext {K : PySem.W.Frag} {W : List Addr} {a : Addr} {xs : List V} (h : SqT K H a xs) (e : HExt W H H') : SqT K H' a xs := by
  rcases h with (h | ⟨o, h⟩) | h
  · exact .inl (.inl (e _ _ h trivial))
  · exact .inl (.inr ⟨o, e _ _ h trivial⟩)
  · exact .inr h
theorem rd_ext {W : List Addr} {a : Addr} {xs : List V} (h : Rd H a (.lst xs)) (e : HExt W H H') (n : a ∉ W) : Rd H' a (.lst xs) := by
  rcases h with h | ⟨o, h⟩
  · exact .inl (e _ _ h n)
  · exact .inr ⟨o, e _ _ h trivial⟩
theorem rd_some {a : Addr} {u : HO} (h : Rd H a u) : H a ≠ none := by
  rcases h with h | ⟨o, h⟩ <;> (rw [h]; exact fun z => nomatch z)

/-- the same, all that is excluded may change -/
structure Sx (M π : List Addr) (H : Hp) (M' π' : List Addr) (H' : Hp) : Prop where
  pre : ∃ r, π' = π ++ r
  new : ∀ b ∈ M', b ∈ M ∨ H b = none
  ext : HExt M H H'
theorem HExt.wide {W W' : List Addr} {H H' : Hp} (e : HExt W H H') (h : ∀ a ∈ W, a ∈ W') : HExt W' H H' := fun a o ho k => e a o ho (k.mono (h a))
theorem St.sx (s : St M π H M' π' H') (hs : ∀ a ∈ π, a ∈ M) : Sx M π H M' π' H' := ⟨s.pre, s.new, s.ext.wide hs⟩
mutual
/-- what holds of a value holds later, all that is not excluded being kept -/
theorem RV.sx (s : Sx M π H M' π' H') : ∀ {v : PV} {u : V}, RV C M π H v u → RV C M' π' H' v u
  | .non, u, h => h
  | .bl b, u, h => h
  | .int i, u, h => h
  | .str z, u, h => h
  | .tup l, u, h => by
    unfold RV at h ⊢
    obtain ⟨a, xs, e, q, r⟩ := h
    exact ⟨a, xs, e, sqT_ext q s.ext, RVs.sx s r⟩
  | .sc l, u, h => by
    unfold RV at h ⊢
    obtain ⟨a, xs, e, q, r⟩ := h
    exact ⟨a, xs, e, q.imp (fun ⟨o, h⟩ => ⟨o, s.ext _ _ h trivial⟩) id, RVs.sx s r⟩
  | .lv l, u, h => by
    unfold RV at h ⊢
    obtain ⟨a, xs, e, n, q, r⟩ := h
    refine ⟨a, xs, e, fun hm => ?_, s.ext _ _ q n, RVs.sx s r⟩
    rcases s.new a hm with z | z
    · exact n z
    · rw [q] at z; cases z
  | .dv ks vs, u, h => by
    unfold RV at h ⊢
    obtain ⟨a, xs, e, n, q, hl, r⟩ := h
    refine ⟨a, xs, e, fun hm => ?_, s.ext _ _ q n, hl, RVs.sx s r⟩
    rcases s.new a hm with z | z
    · exact n z
    · rw [q] at z; cases z
  | .ref i, u, h => by
    unfold RV at h ⊢
    obtain ⟨a, e, eu⟩ := h
    obtain ⟨r, hr⟩ := s.pre
    refine ⟨a, ?_, eu⟩
    rw [hr, List.getElem?_append_left (List.getElem?_eq_some_iff.mp e).1]
    exact e
  | .fn f, u, h => h
  | .exc _ _, u, h => by unfold RV at h; exact h.elim
  | .clo _ _, u, h => by unfold RV at h; exact h.elim
  | .rg _ _ _, u, h => by unfold RV at h; exact h.elim
  | .enu _ _, u, h => by unfold RV at h; exact h.elim
  | .own _, u, h => by unfold RV at h; exact h.elim
theorem RVs.sx (s : Sx M π H M' π' H') : ∀ {l : List PV} {xs : List V}, RVs C M π H l xs → RVs C M' π' H' l xs
  | [], xs, h => h
  | v :: r, xs, h => by
    unfold RVs at h ⊢
    obtain ⟨x, xs', e, h1, h2⟩ := h
    exact ⟨x, xs', e, RV.sx s h1, RVs.sx s h2⟩
end
/-- what holds of a value holds later -/
theorem RV.st (s : St M π H M' π' H') (hs : ∀ a ∈ π, a ∈ M) {v : PV} {u : V} (h : RV C M π H v u) : RV C M' π' H' v u := RV.sx (s.sx hs) h
theorem RVs.st (s : St M π H M' π' H') (hs : ∀ a ∈ π, a ∈ M) {l : List PV} {xs : List V} (h : RVs C M π H l xs) : RVs C M' π' H' l xs := RVs.sx (s.sx hs) h
theorem RVs.length : ∀ {l : List PV} {xs : List V}, RVs C M π H l xs → l.length = xs.length
  | [], xs, h => by unfold RVs at h; rw [h]; rfl
  | v :: r, xs, h => by
    unfold RVs at h
    obtain ⟨x, xs', e, h1, h2⟩ := h
    rw [e, List.length_cons, List.length_cons, RVs.length h2]
theorem RVs.nil : RVs C M π H [] [] := by unfold RVs; rfl
theorem RVs.cons {v : PV} {x : V} {l : List PV} {xs : List V} (h : RV C M π H v x) (r : RVs C M π H l xs) : RVs C M π H (v :: l) (x :: xs) := by
  unfold RVs
  exact ⟨x, xs, rfl, h, r⟩
theorem RVs.get : ∀ {l : List PV} {xs : List V} {i : Nat} {v : PV}, RVs C M π H l xs → l[i]? = some v → ∃ x, xs[i]? = some x ∧ RV C M π H v x
  | [], _, i, v, _, e => by simp at e
  | w :: r, xs, i, v, h, e => by
    unfold RVs at h
    obtain ⟨x, xs', rfl, h1, h2⟩ := h
    cases i with
    | zero =>
      simp only [List.getElem?_cons_zero, Option.some.injEq] at e
      subst e
      exact ⟨x, by simp, h1⟩
    | succ i =>
      obtain ⟨y, e1, e2⟩ := RVs.get (i := i) h2 (by simpa using e)
      exact ⟨y, by simpa using e1, e2⟩
theorem RVs.append : ∀ {l r : List PV} {xs ys : List V}, RVs C M π H l xs → RVs C M π H r ys → RVs C M π H (l ++ r) (xs ++ ys)
  | [], r, xs, ys, h, q => by unfold RVs at h; subst h; exact q
  | v :: l, r, xs, ys, h, q => by
    unfold RVs at h
    obtain ⟨x, xs', rfl, h1, h2⟩ := h
    exact RVs.cons h1 (RVs.append h2 q)
theorem RVs.take : ∀ {l : List PV} {xs : List V} (n : Nat), RVs C M π H l xs → RVs C M π H (l.take n) (xs.take n)
  | _, _, 0, _ => by simpa using RVs.nil
  | [], xs, n + 1, h => by unfold RVs at h; subst h; exact RVs.nil
  | v :: l, xs, n + 1, h => by
    unfold RVs at h
    obtain ⟨x, xs', rfl, h1, h2⟩ := h
    exact RVs.cons h1 (RVs.take n h2)
theorem RVs.drop : ∀ {l : List PV} {xs : List V} (n : Nat), RVs C M π H l xs → RVs C M π H (l.drop n) (xs.drop n)
  | l, xs, 0, h => by simpa using h
  | [], xs, n + 1, h => by unfold RVs at h; subst h; exact RVs.nil
  | v :: l, xs, n + 1, h => by
    unfold RVs at h
    obtain ⟨x, xs', rfl, h1, h2⟩ := h
    simpa using RVs.drop n h2
theorem RVs.set : ∀ {l : List PV} {xs : List V} (i : Nat) {v : PV} {x : V}, RVs C M π H l xs → RV C M π H v x → RVs C M π H (l.set i v) (xs.set i x)
  | [], xs, i, v, x, h, _ => by unfold RVs at h; subst h; simpa using RVs.nil
  | w :: l, xs, i, v, x, h, q => by
    unfold RVs at h
    obtain ⟨y, xs', rfl, h1, h2⟩ := h
    cases i with
    | zero => exact RVs.cons q h2
    | succ i => exact RVs.cons h1 (RVs.set i h2 q)
theorem RV.rw (hs : ∀ a ∈ π, a ∈ M) {v : PV} {u : V} (h : RV C M π H v u) : RW C M π H v u := by
  cases v with
  | lv l =>
    unfold RV at h
    obtain ⟨a, xs, e, n, q, r⟩ := h
    exact ⟨a, xs, e, fun z => n (hs a z), q, r⟩
  | dv ks vs =>
    unfold RV at h
    obtain ⟨a, xs, e, n, q, hl, r⟩ := h
    exact ⟨a, xs, e, fun z => n (hs a z), q, hl, r⟩
  | _ => exact h
theorem RW.st (s : St M π H M' π' H') (hs : ∀ a ∈ π, a ∈ M) (hs' : ∀ a ∈ π', a ∈ M') {v : PV} {u : V} (h : RW C M π H v u) : RW C M' π' H' v u := by
  cases v with
  | lv l =>
    obtain ⟨a, xs, e, n, q, r⟩ := h
    refine ⟨a, xs, e, fun hm => ?_, s.ext _ _ q n, r.st s hs⟩
    rcases s.nw2 a hm with z | z
    · exact n z
    · rw [q] at z; cases z
  | dv ks vs =>
    obtain ⟨a, xs, e, n, q, hl, r⟩ := h
    refine ⟨a, xs, e, fun hm => ?_, s.ext _ _ q n, hl, r.st s hs⟩
    rcases s.nw2 a hm with z | z
    · exact n z
    · rw [q] at z; cases z
  | _ =>
    have h1 : RV C M π H _ u := h
    have h2 : RV C M' π' H' _ u := RV.st s hs h1
    exact h2
theorem RO.st (s : St M π H M' π' H') (hs : ∀ a ∈ π, a ∈ M) {a : Addr} {v : PV} (n : a ∉ π) (h : RO C M π H a v) : RO C M' π' H' a v := by
  cases v with
  | lv l =>
    obtain ⟨xs, e, r⟩ := h
    exact ⟨xs, s.ext _ _ e n, r.st s hs⟩
  | dv ks vs =>
    obtain ⟨xs, e, hl, r⟩ := h
    exact ⟨xs, s.ext _ _ e n, hl, r.st s hs⟩
  | _ => exact h.elim
end

/-- a slot's value: a list of the def's own lies where nothing else lies -/
def RE (C : RC) (M π ow : List Addr) (H : Hp) : PV → V → Prop
  | .own v, u => ∃ a, u = .ref a ∧ a ∈ M ∧ a ∉ π ∧ a ∉ ow ∧ RO C M π H a v
  | .exc c fs, u => ∃ a d, C.ex = some (a, c, d) ∧ u = .ref a ∧ (fs = [] ∨ ∃ dd xs, d = some dd ∧ H dd = some (.xd ((C.nm c).zip xs)) ∧ (C.nm c).length = xs.length ∧ RVs C M π H fs xs)
  | .clo k cs, u => ∃ f xs, u = .ref f ∧ (f, k, xs) ∈ C.clo ∧ RVs C M π H cs xs
  | v, u => RV C M π H v u
/-- slots and store in the heap; ow: what the caller had excluded -/
structure RA (C : RC) (M π : List Addr) (ow : List Addr) (H : Hp) (en : Env) (σ : L2.St) (μ : Sto) : Prop where
  len : σ.length = en.length
  ev : ∀ (i : Nat) (v : PV), en[i]? = some (some v) → ∃ u, σ[i]? = some (some u) ∧ RE C M π ow H v u
  inj : ∀ (i j : Nat) (v w : PV) (u : V), en[i]? = some (some (.own v)) → en[j]? = some (some (.own w)) → σ[i]? = some (some u) → σ[j]? = some (some u) → i = j
  sto : ∀ (i : Nat) (o : SO), μ[i]? = some o → ∃ a, π[i]? = some a ∧ RS C M π H a o
  sl : π.length = μ.length
  nd : π.Nodup
  sub : ∀ a ∈ π, a ∈ M
  a0 : ∀ a ∈ ow, a ∈ M
  trk : ∀ a ∈ M, H a ≠ none

section
variable {C : RC} {M π M' π' M2 π2 : List Addr} {ow : List Addr} {H H' H2 : Hp} {en : Env} {σ : L2.St} {μ : Sto}
theorem HExt.all {W : List Addr} (e : HExt [] H H') : HExt W H H' := fun a o h k => e a o h (k.mono (by simp))
theorem HExt.trans {W : List Addr} (e : HExt W H H') (f : HExt W H' H2) : HExt W H H2 := fun a o h k => f a o (e a o h k) k
theorem St.of (e : HExt [] H H') (bk : ∀ b, H' b = none → H b = none) : St M π H M π H' := ⟨⟨[], by simp⟩, fun _ h => h, fun _ h => .inl h, e.all, fun _ h => .inl h, bk⟩
theorem upd_bk {a : Addr} {o : HO} : ∀ b, upd H a o b = none → H b = none := fun b h => by
  unfold upd at h
  split at h
  · cases h
  · exact h
theorem HExt.upd {a : Addr} {o : HO} (n : H a = none) : HExt [] H (upd H a o) := fun b u h _ => by
  rw [upd_ne (ne_of_none h n)]
  exact h
/-- an object that is not tracked was not tracked before -/
theorem St.trans (hs : ∀ a ∈ π, a ∈ M) (s : St M π H M' π' H') (t : St M' π' H' M2 π2 H2) : St M π H M2 π2 H2 := by
  obtain ⟨r, hr⟩ := s.pre
  obtain ⟨r2, hr2⟩ := t.pre
  refine ⟨⟨r ++ r2, by rw [hr2, hr, List.append_assoc]⟩, fun a h => t.sub a (s.sub a h), fun b h => ?_, fun a o h k => ?_, fun b h => ?_, ?_⟩
  · rcases t.new b h with z | z
    · exact s.new b z
    · exact .inr (s.bk b z)
  · refine t.ext a o (s.ext a o h k) (k.mono fun hm => ?_)
    rcases s.nw2 a hm with z | z
    · exact z
    · rw [h] at z; cases z
  · rcases t.nw2 b h with z | z
    · exact s.nw2 b z
    · exact .inr (s.bk b z)
  · exact fun b h => s.bk b (t.bk b h)
def isOwn : PV → Bool
  | .own _ => true
  | _ => false
theorem RE.of {v : PV} {u : V} (h : RV C M π H v u) : RE C M π ow H v u := by
  cases v with
  | own w => unfold RV at h; exact h.elim
  | exc c fs => unfold RV at h; exact h.elim
  | clo k cs => unfold RV at h; exact h.elim
  | _ => exact h
theorem RE.sxx {ow' : List Addr} {v : PV} {u : V} (nv : isOwn v = false) (s : Sx M π H M' π' H') (h : RE C M π ow H v u) : RE C M' π' ow' H' v u := by
  cases v with
  | own w => cases nv
  | exc c fs =>
    obtain ⟨a, d, e, eu, q⟩ := h
    refine ⟨a, d, e, eu, ?_⟩
    rcases q with q | ⟨dd, xs, e1, e2, e3, r⟩
    · exact .inl q
    · exact .inr ⟨dd, xs, e1, s.ext _ _ e2 trivial, e3, r.sx s⟩
  | clo k cs =>
    obtain ⟨f, xs, e1, e2, r⟩ := h
    exact ⟨f, xs, e1, e2, r.sx s⟩
  | _ =>
    have h1 : RV C M π H _ u := h
    have h2 : RV C M' π' H' _ u := h1.sx s
    exact h2
theorem RE.st {v : PV} {u : V} (s : St M π H M' π' H') (hs : ∀ a ∈ π, a ∈ M) (h0 : ∀ a ∈ ow, a ∈ M) (tr : ∀ a ∈ M, H a ≠ none) (ro : ∀ {a : Addr} {w : PV}, a ∉ π → RO C M π H a w → RO C M' π' H' a w) (h : RE C M π ow H v u) : RE C M' π' ow H' v u := by
  cases v with
  | own w =>
    obtain ⟨a, e, h1, h2, h3, h4⟩ := h
    refine ⟨a, e, s.sub a h1, fun z => ?_, h3, ro h2 h4⟩
    rcases s.nw2 a z with z | z
    · exact h2 z
    · exact tr a h1 z
  | _ => exact RE.sxx rfl (s.sx hs) h
/-- all that was tracked is tracked as it was; M may grow by what was not tracked -/
theorem RA.growM (R : RA C M π ow H en σ μ) (s : St M π H M' π H') (e : HExt [] H H') (tr : ∀ a ∈ M', H' a ≠ none) : RA C M' π ow H' en σ μ := by
  have ro : ∀ {a : Addr} {v : PV}, RO C M π H a v → RO C M' π H' a v := fun {a v} h => by
    cases v with
    | lv l =>
      obtain ⟨xs, e1, r⟩ := h
      exact ⟨xs, e _ _ e1 (by simp [Kp]), r.st s R.sub⟩
    | dv ks vs =>
      obtain ⟨xs, e1, hl, r⟩ := h
      exact ⟨xs, e _ _ e1 (by simp [Kp]), hl, r.st s R.sub⟩
    | _ => exact h.elim
  refine ⟨R.len, fun i v h1 => ?_, R.inj, fun i o h => ?_, R.sl, R.nd, fun a h => s.sub a (R.sub a h), fun a h => s.sub a (R.a0 a h), tr⟩
  · obtain ⟨u, h3, h4⟩ := R.ev i v h1
    exact ⟨u, h3, h4.st s R.sub R.a0 R.trk fun _ h => ro h⟩
  · obtain ⟨a, h1, h2⟩ := R.sto i o h
    refine ⟨a, h1, ?_⟩
    cases o with
    | lst l => exact ro (v := .lv l) h2
    | dct ks vs => exact ro (v := .dv ks vs) h2
theorem RA.grow (R : RA C M π ow H en σ μ) (e : HExt [] H H') (bk : ∀ b, H' b = none → H b = none) : RA C M π ow H' en σ μ := R.growM (.of e bk) e fun a h n => R.trk a h (bk a n)
end
end OL
end
section
set_option Elab.async false
set_option linter.all false
set_option maxRecDepth 100000
/-! OL, part e: an expression's reading by what it computes. -/
namespace OL
open PySem PySem.Spec PyProof.Rows L2

/-- an error in the air: its class, its fields -/
def RX (C : RC) (M π : List Addr) (H : Hp) (c : Nat) (fs : List PV) (cls : Value) (d : Option Addr) : Prop :=
  cls = .ref (C.ca c) ∧ c < C.ncl ∧ (fs = [] ∨ ∃ dd xs, d = some dd ∧ H dd = some (.xd ((C.nm c).zip xs)) ∧ (C.nm c).length = xs.length ∧ RVs C M π H fs xs)

abbrev Rl (α β : Type) := Env → L2.St → List Addr → RC → List Addr → List Addr → Hp → α → β → Prop
/-- what is wanted behind a result -/
def post {α β : Type} (C : RC) (W : WX) (rel : Rl α β) (ow : List Addr) (en : Env) (σ : L2.St) (M π : List Addr) (H : Hp) (r : Res α) (Q : β → Hp → Prop) : Prop := match r with
  | .ok v μ' => ∀ u H' π' M', RA C M' π' ow H' en σ μ' → St M π H M' π' H' → rel en σ ow C M' π' H' v u → Q u H'
  | .exc c fs μ' => ∀ cls d H' π' M', RA C M' π' ow H' en σ μ' → St M π H M' π' H' → RX C M' π' H' c fs cls d → W cls d σ H'
  | .err => False
def tR {α β : Type} (C : RC) (W : WX) (rel : Rl α β) (r : Env → Sto → Res α) : L2.St → Hp → (β → Hp → Prop) → Prop := fun σ H Q =>
  ∃ en μ π M ow, RA C M π ow H en σ μ ∧ post C W rel ow en σ M π H (r en μ) Q
/-- a value: kept (true), or only looked at -/
def RK (k : Bool) (C : RC) (M π : List Addr) (H : Hp) (v : PV) (u : V) : Prop := if k = true then RV C M π H v u else RW C M π H v u
abbrev RKr (k : Bool) : Rl PV V := fun _ _ _ => RK k
abbrev tE (C : RC) (W : WX) (k : Bool) (r : Env → Sto → Res PV) : TE := tR C W (RKr k) r
def RB : Rl Bool Bool := fun _ _ _ _ _ _ _ a b => a = b
abbrev tT (C : RC) (W : WX) (r : Env → Sto → Res Bool) : TT := tR C W RB r
abbrev tL (C : RC) (W : WX) (r : Env → Sto → Res (List PV)) : TA := tR C W (fun _ _ _ => RVs) r

section
variable {C : RC} {W : WX} {M π M' π' : List Addr} {ow : List Addr} {H H' : Hp} {en : Env} {σ : L2.St} {μ μ' : Sto} {α β γ δ : Type} {rel : Rl α β} {rel2 : Rl γ δ}
theorem RK.rw {k : Bool} (hs : ∀ a ∈ π, a ∈ M) {v : PV} {u : V} (h : RK k C M π H v u) : RW C M π H v u := by
  cases k with
  | true => exact RV.rw hs h
  | false => exact h
/-- later, less is asked -/
theorem post.later {r : Res α} {Q : β → Hp → Prop} (hs : ∀ a ∈ π, a ∈ M) (s : St M π H M' π' H') (h : post C W rel ow en σ M π H r Q) : post C W rel ow en σ M' π' H' r Q := by
  cases r with
  | ok v μ => exact fun u H2 π2 M2 R t q => h u H2 π2 M2 R (s.trans hs t) q
  | exc c fs μ => exact fun cls d H2 π2 M2 R t q => h cls d H2 π2 M2 R (s.trans hs t) q
  | err => exact h
/-- a part, then the rest -/
theorem tR_bind {r : Env → Sto → Res α} {f : α → Sto → Res γ} {Q : δ → Hp → Prop} (R : RA C M π ow H en σ μ) (h : post C W rel2 ow en σ M π H ((r en μ).bind f) Q) :
    tR C W rel r σ H fun b H1 => ∃ a μ1 π1 M1, RA C M1 π1 ow H1 en σ μ1 ∧ St M π H M1 π1 H1 ∧ rel en σ ow C M1 π1 H1 a b ∧ post C W rel2 ow en σ M1 π1 H1 (f a μ1) Q := by
  refine ⟨en, μ, π, M, ow, R, ?_⟩
  cases e : r en μ with
  | ok v μ1 =>
    rw [e] at h
    exact fun u H1 π1 M1 R1 s1 q => ⟨v, μ1, π1, M1, R1, s1, q, h.later R.sub s1⟩
  | exc c fs μ1 =>
    rw [e] at h
    exact fun cls d H1 π1 M1 R1 s1 q => h cls d H1 π1 M1 R1 s1 q
  | err =>
    rw [e] at h
    exact h
/-- a value, nothing made or changed -/
theorem post.ok {v : α} {u : β} {Q : β → Hp → Prop} (h : post C W rel ow en σ M π H (.ok v μ) Q) (R : RA C M π ow H en σ μ) (r : rel en σ ow C M π H v u) : Q u H := h u H π M R St.refl r
/-- a value, a new thing laid -/
theorem post.new {v : α} {u : β} {a : Addr} {o : HO} {Q : β → Hp → Prop} (h : post C W rel ow en σ M π H (.ok v μ) Q) (R : RA C M π ow H en σ μ) (n : H a = none) (r : rel en σ ow C M π (upd H a o) v u) : Q u (upd H a o) :=
  h u _ π M (R.grow (.upd n) upd_bk) (.of (.upd n) upd_bk) r
end

section
variable {X : Cx} {C : RC} {W : WX} {pos : Pos}
/-- two parts -/
theorem two {ea eb : Expr} {ra rb : Env → Sto → Res PV} {ka kb : Bool} {g : PV → PV → Sto → Res PV} {k : Bool} {M π : List Addr} {ow : List Addr} {H : Hp} {en : Env} {σ : L2.St} {μ : Sto} {Q : VK}
    (R : RA C M π ow H en σ μ) (h : post C W (RKr k) ow en σ M π H ((ra en μ).bind fun x μ => (rb en μ).bind fun y μ => g x y μ) Q) :
    tE C W ka ra σ H fun x H1 => tE C W kb rb σ H1 fun y H2 => ∃ va vb μ2 π2 M2, RA C M2 π2 ow H2 en σ μ2 ∧ RW C M2 π2 H2 va x ∧ RW C M2 π2 H2 vb y ∧ post C W (RKr k) ow en σ M2 π2 H2 (g va vb μ2) Q := by
  obtain ⟨en', μ', π', M', ow', R', h'⟩ := tR_bind (rel := RKr ka) R h
  refine ⟨en', μ', π', M', ow', R', ?_⟩
  refine (show ∀ {r : Res PV} {Q Q' : VK}, (∀ x H, Q x H → Q' x H) → post C W (RKr ka) ow' en' σ M' π' H r Q → post C W (RKr ka) ow' en' σ M' π' H r Q' from fun {r Q Q'} hq hp => by
    cases r with
    | ok v m => exact fun u H2 π2 M2 R2 t q => hq _ _ (hp u H2 π2 M2 R2 t q)
    | exc c fs m => exact hp
    | err => exact hp) (fun x H1 hx => ?_) h'
  obtain ⟨va, μ1, π1, M1, R1, s1, q1, h1⟩ := hx
  obtain ⟨en2, μ2, π2, M2, ow2, R2, h2⟩ := tR_bind (rel := RKr kb) R1 h1
  refine ⟨en2, μ2, π2, M2, ow2, R2, ?_⟩
  refine (show ∀ {r : Res PV} {Q Q' : VK}, (∀ x H, Q x H → Q' x H) → post C W (RKr kb) ow2 en2 σ M2 π2 H1 r Q → post C W (RKr kb) ow2 en2 σ M2 π2 H1 r Q' from fun {r Q Q'} hq hp => by
    cases r with
    | ok v m => exact fun u H2 π2 M2 R2 t q => hq _ _ (hp u H2 π2 M2 R2 t q)
    | exc c fs m => exact hp
    | err => exact hp) (fun y H2 hy => ?_) h2
  obtain ⟨vb, μ3, π3, M3, R3, s3, q3, h3⟩ := hy
  exact ⟨va, vb, μ3, π3, M3, R3, (q1.rw R1.sub).st s3 R1.sub R3.sub, q3.rw R3.sub, h3⟩
end

theorem _root_.L2.PE.imp {X : Cx} {e : Expr} {t t' : TE} (h : PE X e t) (i : ∀ σ H Q, t' σ H Q → t σ H Q) : PE X e t' := ⟨fun pins s σ H Q I w => h.run pins s σ H Q I (i σ H Q w)⟩
theorem _root_.L2.PT.imp {X : Cx} {e : Expr} {t t' : TT} (h : PT X e t) (i : ∀ σ H Q, t' σ H Q → t σ H Q) : PT X e t' := ⟨fun pins s σ H Q I w => h.run pins s σ H Q I (i σ H Q w)⟩
theorem _root_.L2.PA.imp {X : Cx} {e : List Expr} {t t' : TA} (h : PA X e t) (i : ∀ σ H Q, t' σ H Q → t σ H Q) : PA X e t' := ⟨fun pos pins s σ H Q I w => h.run pos pins s σ H Q I (i σ H Q w)⟩
section
variable {C : RC} {W : WX} {M π M' π' : List Addr} {ow : List Addr} {H H' : Hp} {en : Env} {σ : L2.St} {μ μ' : Sto} {α β γ δ : Type} {rel : Rl α β} {rel2 : Rl γ δ} {k : Bool}
theorem post.mono {r : Res α} {Q Q' : β → Hp → Prop} (hq : ∀ x H, Q x H → Q' x H) (h : post C W rel ow en σ M π H r Q) : post C W rel ow en σ M π H r Q' := by
  cases r with
  | ok v m => exact fun u H2 π2 M2 R2 t q => hq _ _ (h u H2 π2 M2 R2 t q)
  | exc c fs m => exact h
  | err => exact h
theorem tR.mono {r : Env → Sto → Res α} {Q Q' : β → Hp → Prop} (hq : ∀ x H, Q x H → Q' x H) (h : tR C W rel r σ H Q) : tR C W rel r σ H Q' := by
  obtain ⟨en, μ, π, M, ow, R, h⟩ := h
  exact ⟨en, μ, π, M, ow, R, h.mono hq⟩
theorem RK.of {v : PV} {u : V} (hs : ∀ a ∈ π, a ∈ M) (h : RV C M π H v u) : RK k C M π H v u := by
  cases k with
  | true => exact h
  | false => exact h.rw hs
/-- a value whose object stands -/
theorem post.val {v : PV} {u : V} {Q : VK} (h : post C W (RKr k) ow en σ M π H (.ok v μ) Q) (R : RA C M π ow H en σ μ) (r : RV C M π H v u) : Q u H := h.ok R (.of R.sub r)
theorem post.valN {v : PV} {u : V} {a : Addr} {o : HO} {Q : VK} (h : post C W (RKr k) ow en σ M π H (.ok v μ) Q) (R : RA C M π ow H en σ μ) (n : H a = none) (r : RV C M π (upd H a o) v u) : Q u (upd H a o) := h.new R n (.of R.sub r)
theorem opt_inv {o : Option α} {Q : β → Hp → Prop} (h : post C W rel ow en σ M π H (Res.opt o μ) Q) : ∃ v, o = some v ∧ post C W rel ow en σ M π H (.ok v μ) Q := by
  cases o with
  | none => exact h.elim
  | some v => exact ⟨v, rfl, h⟩

/-- by two values -/
def rV (C : RC) (W : WX) (k : Bool) (g : PV → PV → Sto → Res PV) : R2 := fun x y H Q => ∃ en σ μ π M ow va vb, RA C M π ow H en σ μ ∧ RW C M π H va x ∧ RW C M π H vb y ∧ post C W (RKr k) ow en σ M π H (g va vb μ) Q
theorem rv_int {i : Int} {x : V} (h : RW C M π H (.int i) x) : x = .int i := h
theorem rv_bl {i : Bool} {x : V} (h : RW C M π H (.bl i) x) : x = .bl i := h
theorem rv_str {i : Str} {x : V} (h : RW C M π H (.str i) x) : x = .str i := h
theorem rv_tup {l : List PV} {x : V} (h : RW C M π H (.tup l) x) : ∃ a xs, x = .ref a ∧ SqT C.K H a xs ∧ RVs C M π H l xs := by
  have h1 : RV C M π H (.tup l) x := h
  unfold RV at h1
  exact h1
theorem rv_lv {l : List PV} {x : V} (h : RW C M π H (.lv l) x) : ∃ a xs, x = .ref a ∧ a ∉ π ∧ H a = some (.lst xs) ∧ RVs C M π H l xs := h
theorem rv_sc {l : List PV} {x : V} (h : RW C M π H (.sc l) x) : ∃ a xs, x = .ref a ∧ SqF C.K H a xs ∧ RVs C M π H l xs := by
  have h1 : RV C M π H (.sc l) x := h
  unfold RV at h1
  exact h1
theorem rv_ref {i : Nat} {x : V} (h : RW C M π H (.ref i) x) : ∃ a, π[i]? = some a ∧ x = .ref a := by
  have h1 : RV C M π H (.ref i) x := h
  unfold RV at h1
  exact h1
theorem RVs.nil_of {l : List PV} (h : RVs C M π H l []) : l = [] := by
  cases l with
  | nil => rfl
  | cons v r =>
    unfold RVs at h
    obtain ⟨_, _, e, _⟩ := h
    cases e
theorem rv_new {l : List PV} {xs : List V} {a : Addr} (n : H a = none) (R : RA C M π ow H en σ μ) (r : RVs C M π H l xs) : RV C M π (upd H a (.tup xs)) (.tup l) (.ref a) := by
  unfold RV
  exact ⟨a, xs, rfl, .of upd_same, r.st (.of (.upd n) upd_bk) R.sub⟩
/-- not tracked, not the def's own -/
theorem RA.fresh (R : RA C M π ow H en σ μ) : True := trivial
end
section
variable {X : Cx} {C : RC} {W : WX} {k : Bool}
def opM : Bop → Operator
  | .add => .Add | .sub => .Sub | .mul => .Mult | .fdiv => .FloorDiv | .mod => .Mod | .pow => .Pow | .shl => .LShift | .shr => .RShift | .band => .BitAnd | .bor => .BitOr | .bxor => .BitXor
theorem op_int (o : Bop) : OpR X (binaryOp (opM o)) (fun x y H Q => ∃ i j m, x = .int i ∧ y = .int j ∧ intOp o i j = some m ∧ Q (.int m) H) := by
  intro pins s σ H x y v u Q I rx ry h
  obtain ⟨i, j, m, rfl, rfl, e, q⟩ := h
  cases o with
  | add => cases e; exact op_add pins s σ H _ _ v u Q I rx ry ⟨i, j, rfl, rfl, q⟩
  | sub => cases e; exact op_sub pins s σ H _ _ v u Q I rx ry ⟨i, j, rfl, rfl, q⟩
  | mul =>
    simp only [intOp] at e
    split at e
    · rename_i hm
      cases e
      unfold mulOk at hm
      simp only [Bool.or_eq_true, decide_eq_true_eq] at hm
      rcases hm with (hm | hm) | hm
      · exact op_mul pins s σ H _ _ v u Q I rx ry ⟨i, j, rfl, rfl, .inl ⟨by omega, by omega⟩, q⟩
      · exact op_mul pins s σ H _ _ v u Q I rx ry ⟨i, j, rfl, rfl, .inr ⟨by omega, by omega⟩, q⟩
      · obtain ⟨t, rfl⟩ := rx
        obtain ⟨t', rfl⟩ := ry
        refine mul_int ⟨.int _, H, I.tok _, ⟨_, rfl⟩, q⟩ ?_
        have b : ∀ x : Int, Builtin.Int.intBits x ≤ x.natAbs.log2 + 1 := fun x => by
          unfold Builtin.Int.intBits
          split <;> omega
        have h1 := b i
        have h2 := b j
        have e : bitsLine = 134217728 := by decide
        unfold IntMulOk
        intro z
        rw [Bool.and_eq_true] at z
        have z2 := z.2
        unfold Builtin.Int.intTooBig at z2
        have z3 := of_decide_eq_true z2
        rw [e] at z3
        omega
    · cases e
  | fdiv =>
    simp only [intOp] at e
    split at e
    · rename_i hm
      cases e
      obtain ⟨t, rfl⟩ := rx
      obtain ⟨t', rfl⟩ := ry
      exact floordiv_int hm.1 ⟨.int _, H, I.tok _, ⟨_, rfl⟩, q⟩ (.inl (PyProof.noPylong_of_log2 hm.2))
    · cases e
  | mod =>
    simp only [intOp] at e
    split at e
    · rename_i hm
      cases e
      exact op_modN pins s σ H _ _ v u Q I rx ry ⟨i, j, rfl, rfl, hm, q⟩
    · cases e
  | pow =>
    simp only [intOp] at e
    split at e
    · rename_i hm
      cases e
      unfold powOk at hm
      simp only [Bool.and_eq_true, decide_eq_true_eq] at hm
      exact op_pow pins s σ H _ _ v u Q I rx ry ⟨i, j, rfl, rfl, ⟨hm.1.1, hm.1.2, hm.2⟩, q⟩
    · cases e
  | shl =>
    simp only [intOp] at e
    split at e
    · rename_i hm
      cases e
      unfold powOk at hm
      simp only [Bool.and_eq_true, decide_eq_true_eq] at hm
      exact op_shl pins s σ H _ _ v u Q I rx ry ⟨i, j, rfl, rfl, ⟨hm.1.1, hm.1.2, hm.2⟩, q⟩
    · cases e
  | shr =>
    simp only [intOp] at e
    split at e
    · rename_i hm
      cases e
      exact op_shr pins s σ H _ _ v u Q I rx ry ⟨i, j, rfl, rfl, hm, q⟩
    · cases e
  | band => cases e; exact op_and pins s σ H _ _ v u Q I rx ry ⟨i, j, rfl, rfl, q⟩
  | bor => cases e; exact op_or pins s σ H _ _ v u Q I rx ry ⟨i, j, rfl, rfl, q⟩
  | bxor => cases e; exact op_xor pins s σ H _ _ v u Q I rx ry ⟨i, j, rfl, rfl, q⟩
end

section
variable {C : RC} {W : WX} {M π : List Addr} {ow : List Addr} {H : Hp} {en : Env} {σ : L2.St} {μ : Sto} {k : Bool}
theorem rv_newL {l : List PV} {xs : List V} {a : Addr} (n : H a = none) (R : RA C M π ow H en σ μ) (r : RVs C M π H l xs) : RV C M π (upd H a (.lst xs)) (.lv l) (.ref a) := by
  unfold RV
  exact ⟨a, xs, rfl, fun z => R.trk a z n, upd_same, r.st (.of (.upd n) upd_bk) R.sub⟩
theorem times_rv {l : List PV} {xs : List V} (r : RVs C M π H l xs) : ∀ n : Nat, RVs C M π H (List.replicate n l).flatten (List.replicate n xs).flatten
  | 0 => by simpa using RVs.nil
  | n + 1 => by
    rw [List.replicate_succ, List.replicate_succ, List.flatten_cons, List.flatten_cons]
    exact r.append (times_rv r n)
end
section
variable {X : Cx} {C : RC} {W : WX} {k : Bool}
theorem szl : SZ = sizeLine := by rw [sizeLine_eq]
theorem op_bin (hK : C.K = X.K) (o : Bop) : OpR X (binaryOp (opM o)) (rV C W k (binOp o)) := by
  intro pins s σ H x y v u Q I rx ry h
  obtain ⟨en, σ', μ, π, M, ow, va, vb, R, ra, rb, h⟩ := h
  unfold binOp at h
  split at h
  · -- ints
    rename_i i j
    have e1 := rv_int ra
    have e2 := rv_int rb
    subst e1 e2
    split at h
    · rename_i m e
      exact op_int o pins s σ H _ _ v u Q I rx ry ⟨i, j, m, rfl, rfl, e, h.val R (by unfold RV; rfl)⟩
    · exact h.elim
  · -- tuples
    rename_i p q
    obtain ⟨a, xs, rfl, ha, r1⟩ := rv_tup ra
    obtain ⟨b, ys, rfl, hb, r2⟩ := rv_tup rb
    split at h
    · rename_i c
      obtain ⟨rfl, hz⟩ := c
      rw [r1.length, r2.length, szl] at hz
      refine op_catA pins s σ H _ _ v u Q I rx ry ⟨a, b, xs, ys, rfl, rfl, hK ▸ ha, hK ▸ hb, hz, fun e => ?_, fun n e => ?_, fun n1 n2 p hp => ?_⟩
      · subst e
        rw [r1.nil_of, List.nil_append] at h
        exact h.val R rb
      · subst e
        rw [r2.nil_of, List.append_nil] at h
        exact h.val R ra
      · exact h.valN R hp (rv_new hp R (r1.append r2))
    · exact h.elim
  · -- texts
    rename_i p q
    have e1 := rv_str ra
    have e2 := rv_str rb
    subst e1 e2
    split at h
    · rename_i c
      obtain ⟨rfl, hz⟩ := c
      rw [szl] at hz
      exact op_add_str pins s σ H _ _ v u Q I rx ry ⟨p, q, rfl, rfl, hz, h.val R (by unfold RV; rfl)⟩
    · exact h.elim
  · -- a tuple so many times
    rename_i p n
    obtain ⟨a, xs, rfl, ha, r1⟩ := rv_tup ra
    have e2 := rv_int rb
    subst e2
    split at h
    · rename_i c
      obtain ⟨rfl, h1, h2, h3, h4⟩ := c
      rw [r1.length] at h3 h4
      exact op_repT pins s σ H _ _ v u Q I rx ry ⟨a, n, xs, rfl, rfl, hK ▸ ha, by intro e; subst e; simp at h3, h1, h2, h4, fun p hp => h.valN R hp (rv_new hp R (times_rv r1 _))⟩
    · exact h.elim
  · -- lists
    rename_i p q
    obtain ⟨a, xs, rfl, _, ha, r1⟩ := rv_lv ra
    obtain ⟨b, ys, rfl, _, hb, r2⟩ := rv_lv rb
    split at h
    · rename_i c
      subst c
      unfold newL at h
      split at h
      · rename_i hz
        rw [List.length_append, r1.length, r2.length, szl] at hz
        exact op_cat pins s σ H _ _ v u Q I rx ry ⟨a, b, xs, ys, rfl, rfl, ha, hb, hz, fun p hp => h.valN R hp (rv_newL hp R (r1.append r2))⟩
      · exact h.elim
    · exact h.elim
  · -- a list so many times
    rename_i p n
    obtain ⟨a, xs, rfl, _, ha, r1⟩ := rv_lv ra
    have e2 := rv_int rb
    subst e2
    split at h
    · rename_i c
      obtain ⟨rfl, h1, h2, h3⟩ := c
      unfold newL at h
      split at h
      · rw [r1.length, szl] at h3
        exact op_rep pins s σ H _ _ v u Q I rx ry ⟨a, n, xs, rfl, rfl, ha, by omega, h2, h3, fun p hp => h.valN R hp (rv_newL hp R (times_rv r1 _))⟩
      · exact h.elim
    · exact h.elim
  · exact h.elim
end
/-! ### things that were just made -/
section
variable {C : RC} {W : WX} {M π M' π' : List Addr} {ow : List Addr} {H H' : Hp} {en : Env} {σ : L2.St} {μ μ' : Sto}
/-- a new list, a new dict of one's own -/
def RFr : Rl PV V := fun en σ ow C M π H v u => ∃ a, u = .ref a ∧ a ∈ M ∧ a ∉ π ∧ a ∉ ow ∧ (∀ (i : Nat) (w : PV), en[i]? = some (some (.own w)) → σ[i]? ≠ some (some (.ref a))) ∧ RO C M π H a v
/-- the thing at a was made behind H, it lies apart -/
def NewOk (C : RC) (W : WX) (rl : Rl PV V) : Prop := ∀ {ow : List Addr} {en : Env} {σ : L2.St} {M π M' π' : List Addr} {H H' : Hp} {μ μ' : Sto} {a : Addr} {v : PV} {Q : VK}, RA C M π ow H en σ μ → RA C M' π' ow H' en σ μ' → St M π H M' π' H' → H a = none → a ∈ M' → a ∉ π' → RO C M' π' H' a v →
  post C W rl ow en σ M π H (.ok v μ') Q → Q (.ref a) H'
theorem RA.old (R : RA C M π ow H en σ μ) {a : Addr} (n : H a = none) : a ∉ M ∧ a ∉ ow ∧ ∀ (i : Nat) (w : PV), en[i]? = some (some (.own w)) → σ[i]? ≠ some (some (.ref a)) := by
  have h : a ∉ M := fun z => R.trk a z n
  refine ⟨h, fun z => h (R.a0 a z), fun i w e z => ?_⟩
  obtain ⟨u, h1, b, h2, h3, _⟩ := R.ev i _ e
  rw [z] at h1
  cases h1
  cases h2
  exact h h3
mutual
/-- less is excluded -/
theorem RV.less (hs : ∀ a ∈ M', a ∈ M) : ∀ {v : PV} {u : V}, RV C M π H v u → RV C M' π H v u
  | .non, u, h => h
  | .bl b, u, h => h
  | .int i, u, h => h
  | .str z, u, h => h
  | .tup l, u, h => by
    unfold RV at h ⊢
    obtain ⟨a, xs, e, q, r⟩ := h
    exact ⟨a, xs, e, q, RVs.less hs r⟩
  | .sc l, u, h => by
    unfold RV at h ⊢
    obtain ⟨a, xs, e, q, r⟩ := h
    exact ⟨a, xs, e, q, RVs.less hs r⟩
  | .lv l, u, h => by
    unfold RV at h ⊢
    obtain ⟨a, xs, e, n, q, r⟩ := h
    exact ⟨a, xs, e, fun z => n (hs a z), q, RVs.less hs r⟩
  | .dv ks vs, u, h => by
    unfold RV at h ⊢
    obtain ⟨a, xs, e, n, q, hl, r⟩ := h
    exact ⟨a, xs, e, fun z => n (hs a z), q, hl, RVs.less hs r⟩
  | .ref i, u, h => h
  | .fn f, u, h => h
  | .exc _ _, u, h => by unfold RV at h; exact h.elim
  | .clo _ _, u, h => by unfold RV at h; exact h.elim
  | .rg _ _ _, u, h => by unfold RV at h; exact h.elim
  | .enu _ _, u, h => by unfold RV at h; exact h.elim
  | .own _, u, h => by unfold RV at h; exact h.elim
theorem RVs.less (hs : ∀ a ∈ M', a ∈ M) : ∀ {l : List PV} {xs : List V}, RVs C M π H l xs → RVs C M' π H l xs
  | [], xs, h => h
  | v :: r, xs, h => by
    unfold RVs at h ⊢
    obtain ⟨x, xs', e, h1, h2⟩ := h
    exact ⟨x, xs', e, RV.less hs h1, RVs.less hs h2⟩
end
theorem RO.less (hs : ∀ a ∈ M', a ∈ M) {a : Addr} {v : PV} (h : RO C M π H a v) : RO C M' π H a v := by
  cases v with
  | lv l =>
    obtain ⟨xs, e, r⟩ := h
    exact ⟨xs, e, r.less hs⟩
  | dv ks vs =>
    obtain ⟨xs, e, hl, r⟩ := h
    exact ⟨xs, e, hl, r.less hs⟩
  | _ => exact h.elim
theorem RE.lessx {ow' : List Addr} {v : PV} {u : V} (nv : isOwn v = false) (hs : ∀ a ∈ M', a ∈ M) (h : RE C M π ow H v u) : RE C M' π ow' H v u := by
  cases v with
  | own w => cases nv
  | exc c fs =>
    obtain ⟨a, d, e, eu, q⟩ := h
    refine ⟨a, d, e, eu, ?_⟩
    rcases q with q | ⟨dd, xs, e1, e2, e3, r⟩
    · exact .inl q
    · exact .inr ⟨dd, xs, e1, e2, e3, r.less hs⟩
  | clo k cs =>
    obtain ⟨f, xs, e1, e2, r⟩ := h
    exact ⟨f, xs, e1, e2, r.less hs⟩
  | _ =>
    have h1 : RV C M π H _ u := h
    have h2 : RV C M' π H _ u := h1.less hs
    exact h2
/-- what is apart is let go -/
theorem RA.show (R : RA C M π ow H en σ μ) {a : Addr} (h1 : a ∉ π) (h2 : a ∉ ow) (h3 : ∀ (i : Nat) (w : PV), en[i]? = some (some (.own w)) → σ[i]? ≠ some (some (.ref a))) : RA C (M.filter (· ≠ a)) π ow H en σ μ := by
  have hs : ∀ b ∈ M.filter (· ≠ a), b ∈ M := fun b hb => (List.mem_filter.mp hb).1
  have hm : ∀ {b}, b ∈ M → b ≠ a → b ∈ M.filter (· ≠ a) := fun {b} h n => List.mem_filter.mpr ⟨h, by simpa using n⟩
  refine ⟨R.len, fun i v e => ?_, R.inj, fun i o e => ?_, R.sl, R.nd, fun b hb => hm (R.sub b hb) fun z => h1 (z ▸ hb), fun b hb => hm (R.a0 b hb) fun z => h2 (z ▸ hb), fun b hb => R.trk b (hs b hb)⟩
  · obtain ⟨u, e1, e2⟩ := R.ev i v e
    refine ⟨u, e1, ?_⟩
    cases v with
    | own w =>
      obtain ⟨b, q1, q2, q3, q4, q5⟩ := e2
      refine ⟨b, q1, hm q2 fun z => ?_, q3, q4, q5.less hs⟩
      subst z q1
      exact h3 i w e e1
    | _ => exact RE.lessx rfl hs e2
  · obtain ⟨b, e1, e2⟩ := R.sto i o e
    refine ⟨b, e1, ?_⟩
    cases o with
    | lst l => exact RO.less (v := .lv l) hs e2
    | dct ks vs => exact RO.less (v := .dv ks vs) hs e2
theorem newOk_k {k : Bool} : NewOk C W (RKr k) := by
  intro ow en σ M π M' π' H H' μ μ' a v Q R R' s n ha hp ro h
  obtain ⟨n1, n2, n3⟩ := R.old n
  have hs : ∀ b ∈ M'.filter (· ≠ a), b ∈ M' := fun b hb => (List.mem_filter.mp hb).1
  have na : a ∉ M'.filter (· ≠ a) := fun z => by simpa using (List.mem_filter.mp z).2
  have R2 := R'.show hp n2 n3
  have s2 : St M π H (M'.filter (· ≠ a)) π' H' := ⟨s.pre, fun b hb => List.mem_filter.mpr ⟨s.sub b hb, by simpa using fun z : b = a => n1 (z ▸ hb)⟩, fun b hb => s.new b (hs b hb), s.ext, s.nw2, s.bk⟩
  refine h _ _ _ _ R2 s2 (RK.of R2.sub ?_)
  have ro2 := ro.less hs
  cases v with
  | lv l =>
    obtain ⟨xs, e, r⟩ := ro2
    unfold RV
    exact ⟨a, xs, rfl, na, e, r⟩
  | dv ks vs =>
    obtain ⟨xs, e, hl, r⟩ := ro2
    unfold RV
    exact ⟨a, xs, rfl, na, e, hl, r⟩
  | _ => exact ro2.elim
theorem newOk_f : NewOk C W RFr := by
  intro ow en σ M π M' π' H H' μ μ' a v Q R R' s n ha hp ro h
  obtain ⟨n1, n2, n3⟩ := R.old n
  exact h _ _ _ _ R' s ⟨a, rfl, ha, hp, n2, n3, ro⟩
/-- a new thing, apart -/
theorem RA.hide (R : RA C M π ow H en σ μ) {a : Addr} {o : HO} (n : H a = none) : RA C (a :: M) π ow (upd H a o) en σ μ ∧ St M π H (a :: M) π (upd H a o) := by
  have s : St M π H (a :: M) π (upd H a o) := ⟨⟨[], by simp⟩, fun b hb => List.mem_cons_of_mem _ hb, fun b hb => by
    rcases List.mem_cons.mp hb with rfl | hb
    · exact .inr n
    · exact .inl hb, (HExt.upd n).all, fun b hb => .inl hb, upd_bk⟩
  refine ⟨R.growM s (.upd n) (fun b hb e => ?_), s⟩
  · rcases List.mem_cons.mp hb with rfl | hb
    · rw [upd_same] at e; cases e
    · exact R.trk b hb (upd_bk b e)
/-- a new list that nobody else holds -/
theorem NewOk.lst {rl : Rl PV V} (nw : NewOk C W rl) {a : Addr} {l : List PV} {xs : List V} {Q : VK} (R : RA C M π ow H en σ μ) (n : H a = none) (r : RVs C M π H l xs) (h : post C W rl ow en σ M π H (.ok (.lv l) μ) Q) : Q (.ref a) (upd H a (.lst xs)) := by
  obtain ⟨R2, s⟩ := R.hide (o := .lst xs) n
  exact nw (v := .lv l) R R2 s n List.mem_cons_self (fun z => R.trk a (R.sub a z) n) ⟨xs, upd_same, r.st s R.sub⟩ h
/-- a list or a dict -/
def Mt : HO → Prop
  | .lst _ => True
  | .dK _ => True
  | _ => False
theorem sx_poke {a : Addr} {o o' : HO} (ha : a ∈ M) (h : H a = some o) (m : Mt o) : Sx M π H M π (upd H a o') := ⟨⟨[], by simp⟩, fun _ h => .inl h, fun b u hb k => by
  by_cases z : b = a
  · subst z
    rw [h] at hb
    cases hb
    cases o <;> first | exact absurd ha k | exact absurd m (by simp [Mt])
  · rw [upd_ne z]; exact hb⟩
theorem RO.poke {a b : Addr} {o o' : HO} {v : PV} (ha : a ∈ M) (h : H a = some o) (m : Mt o) (n : b ≠ a) (r : RO C M π H b v) : RO C M π (upd H a o') b v := by
  cases v with
  | lv l =>
    obtain ⟨xs, e, r⟩ := r
    exact ⟨xs, by rw [upd_ne n]; exact e, r.sx (sx_poke (o' := o') ha h m)⟩
  | dv ks vs =>
    obtain ⟨xs, e, hl, r⟩ := r
    exact ⟨xs, by rw [upd_ne n]; exact e, hl, r.sx (sx_poke (o' := o') ha h m)⟩
  | _ => exact r.elim
/-- what lies apart is changed -/
theorem RA.poke (R : RA C M π ow H en σ μ) {a : Addr} {o o' : HO} (ha : a ∈ M) (h : H a = some o) (m : Mt o) (h1 : a ∉ π) (h3 : ∀ (i : Nat) (w : PV), en[i]? = some (some (.own w)) → σ[i]? ≠ some (some (.ref a))) : RA C M π ow (upd H a o') en σ μ := by
  refine ⟨R.len, fun i v e => ?_, R.inj, fun i o e => ?_, R.sl, R.nd, R.sub, R.a0, fun b hb e => R.trk b hb (upd_bk b e)⟩
  · obtain ⟨u, e1, e2⟩ := R.ev i v e
    refine ⟨u, e1, ?_⟩
    cases v with
    | own w =>
      obtain ⟨b, q1, q2, q3, q4, q5⟩ := e2
      refine ⟨b, q1, q2, q3, q4, q5.poke ha h m fun z => ?_⟩
      subst z q1
      exact h3 i w e e1
    | _ => exact RE.sxx rfl (sx_poke (o' := o') ha h m) e2
  · obtain ⟨b, e1, e2⟩ := R.sto i o e
    refine ⟨b, e1, ?_⟩
    have n : b ≠ a := fun z => h1 (z ▸ List.mem_of_getElem? e1)
    cases o with
    | lst l => exact RO.poke (v := .lv l) ha h m n e2
    | dct ks vs => exact RO.poke (v := .dv ks vs) ha h m n e2
/-- from one moment to a later one, what was made behind the first being changed -/
theorem St.poke (s : St M π H M' π' H') {a : Addr} {o' : HO} (n : H a = none) : St M π H M' π' (upd H' a o') := ⟨s.pre, s.sub, s.new, fun b u hb k => by
  rw [upd_ne (ne_of_none hb n)]
  exact s.ext b u hb k, s.nw2, fun b hb => s.bk b (upd_bk b hb)⟩
end
end OL
end
section
set_option Elab.async false
set_option linter.all false
set_option maxRecDepth 100000
/-! OL, part f: comparisons, subscripts, tests of kinds. -/
namespace OL
open PySem PySem.Spec PyProof.Rows L2

section
variable {C : RC} {M π : List Addr} {ow : List Addr} {H : Hp} {en : Env} {σ : L2.St} {μ : Sto}
mutual
theorem dpV {f : Nat → Option PyData} (hf : ∀ i d a, f i = some d → π[i]? = some a → Dp C.K H (.ref a) d) : ∀ {v : PV} {d : PyData} {x : V}, datS f v = some d → RV C M π H v x → Dp C.K H x d
  | .non, d, x, e, r => by
    unfold RV at r; subst r
    unfold datS at e; cases e; exact .non
  | .bl b, d, x, e, r => by
    unfold RV at r; subst r
    unfold datS at e; cases e; exact .bl b
  | .int i, d, x, e, r => by
    unfold RV at r; subst r
    unfold datS at e; cases e; exact .int i
  | .str z, d, x, e, r => by
    unfold RV at r; subst r
    unfold datS at e; cases e; exact .str z
  | .tup l, d, x, e, r => by
    unfold RV at r
    unfold datS at e
    obtain ⟨a, xs, rfl, q, r⟩ := r
    cases h : datsS f l with
    | none => rw [h] at e; cases e
    | some ds =>
      rw [h] at e; cases e
      exact .tup q (dpVs hf h r)
  | .lv l, d, x, e, r => by
    unfold RV at r
    unfold datS at e
    obtain ⟨a, xs, rfl, _, q, r⟩ := r
    cases h : datsS f l with
    | none => rw [h] at e; cases e
    | some ds =>
      rw [h] at e; cases e
      exact .lst (.of q) (dpVs hf h r)
  | .ref i, d, x, e, r => by
    unfold RV at r
    unfold datS at e
    obtain ⟨a, h, rfl⟩ := r
    exact hf i d a e h
  | .dv _ _, _, _, e, _ => by unfold datS at e; cases e
  | .fn _, _, _, e, _ => by unfold datS at e; cases e
  | .exc _ _, _, _, e, _ => by unfold datS at e; cases e
  | .clo _ _, _, _, e, _ => by unfold datS at e; cases e
  | .sc _, _, _, e, _ => by unfold datS at e; cases e
  | .rg _ _ _, _, _, e, _ => by unfold datS at e; cases e
  | .enu _ _, _, _, e, _ => by unfold datS at e; cases e
  | .own _, _, _, e, _ => by unfold datS at e; cases e
theorem dpVs {f : Nat → Option PyData} (hf : ∀ i d a, f i = some d → π[i]? = some a → Dp C.K H (.ref a) d) : ∀ {l : List PV} {ds : List PyData} {xs : List V}, datsS f l = some ds → RVs C M π H l xs → DpAll C.K H xs ds
  | [], ds, xs, e, r => by
    unfold RVs at r; subst r
    unfold datsS at e; cases e; exact .nil
  | v :: l, ds, xs, e, r => by
    unfold RVs at r
    obtain ⟨x, xs', rfl, r1, r2⟩ := r
    unfold datsS at e
    cases h1 : datS f v with
    | none => rw [h1] at e; cases e
    | some d =>
      cases h2 : datsS f l with
      | none => rw [h1, h2] at e; cases e
      | some ds' =>
        rw [h1, h2] at e; cases e
        exact .cons (dpV hf h1 r1) (dpVs hf h2 r2)
end
theorem dpRef (R : RA C M π ow H en σ μ) : ∀ (n : Nat) (i : Nat) (d : PyData) (a : Addr), refD n μ i = some d → π[i]? = some a → Dp C.K H (.ref a) d
  | 0, i, d, a, e, _ => by unfold refD at e; cases e
  | n + 1, i, d, a, e, h => by
    unfold refD at e
    cases hm : μ[i]? with
    | none => rw [hm] at e; cases e
    | some o =>
      rw [hm] at e
      cases o with
      | dct _ _ => cases e
      | lst l =>
        obtain ⟨a', h1, h2⟩ := R.sto i _ hm
        rw [h] at h1; cases h1
        obtain ⟨xs, hx, r⟩ := h2
        have e2 : (datsS (refD n μ) l).map .list = some d := e
        cases h3 : datsS (refD n μ) l with
        | none => rw [h3] at e2; cases e2
        | some ds =>
          rw [h3] at e2; cases e2
          exact .lst (.of hx) (dpVs (dpRef R n) h3 r)
theorem dpM (R : RA C M π ow H en σ μ) {v : PV} {d : PyData} {x : V} (e : datM μ v = some d) (r : RW C M π H v x) : Dp C.K H x d := by
  cases v with
  | lv l =>
    obtain ⟨a, xs, rfl, _, q, r⟩ := r
    unfold datM datS at e
    cases h : datsS (refD 6 μ) l with
    | none => rw [h] at e; cases e
    | some ds =>
      rw [h] at e; cases e
      exact .lst (.of q) (dpVs (dpRef R 6) h r)
  | dv ks vs => unfold datM datS at e; cases e
  | _ => exact dpV (M := M) (dpRef R 6) e r
theorem dpMs (R : RA C M π ow H en σ μ) {l : List PV} {ds : List PyData} {xs : List V} (e : datsS (refD 6 μ) l = some ds) (r : RVs C M π H l xs) : DpAll C.K H xs ds := dpVs (dpRef R 6) e r
end

section
variable {X : Cx} {C : RC} {W : WX} {k : Bool}
def copM : Cop → CmpOp
  | .eq => .Eq | .ne => .NotEq | .lt => .Lt | .le => .LtE | .gt => .Gt | .ge => .GtE | .isn => .Is | .nisn => .IsNot | .mem => .In | .nmem => .NotIn
theorem op_inT (hu : X.A.units + 65 < cLine) : OpR X (compareOp .In) (fun x y H Q => ∃ d ds, Dp X.K H x d ∧ (Dp X.K H y (.tuple ds) ∨ Dp X.K H y (.list ds)) ∧ SeqAt.shaped d = true ∧ PyData.canLayAll0 ds = true ∧ Q (.bl (ds.any fun y => PyData.eqv y d)) H) := by
  intro pins s σ H x y v u Q I rx ry h
  obtain ⟨d, ds, hd, he, sd, se, q⟩ := h
  obtain ⟨as, r1⟩ := Dp.reads I d x v hd rx
  have hz : X.A.units + 1 + min (PyData.depthAll ds) d.depth < cLine := by
    have h1 := SeqAt.depth_of_shaped sd
    have h2 : min (PyData.depthAll ds) d.depth ≤ d.depth := Nat.min_le_right _ _
    omega
  rcases he with he | he
  · obtain ⟨bs, r2⟩ := Dp.reads I _ y u he ry
    exact SeqAt.in_tuple_reads r2 r1 se (SeqAt.canLay_of_shaped sd) hz ⟨.bl _, H, I, rfl, q⟩
  · obtain ⟨bs, r2⟩ := Dp.reads I _ y u he ry
    exact SeqAt.in_list_reads r2 r1 se (SeqAt.canLay_of_shaped sd) hz ⟨.bl _, H, I, rfl, q⟩
theorem op_notInT (hu : X.A.units + 65 < cLine) : OpR X (compareOp .NotIn) (fun x y H Q => ∃ d ds, Dp X.K H x d ∧ (Dp X.K H y (.tuple ds) ∨ Dp X.K H y (.list ds)) ∧ SeqAt.shaped d = true ∧ PyData.canLayAll0 ds = true ∧ Q (.bl (!ds.any fun y => PyData.eqv y d)) H) := by
  intro pins s σ H x y v u Q I rx ry h
  obtain ⟨d, ds, hd, he, sd, se, q⟩ := h
  obtain ⟨as, r1⟩ := Dp.reads I d x v hd rx
  have hz : X.A.units + 1 + min (PyData.depthAll ds) d.depth < cLine := by
    have h1 := SeqAt.depth_of_shaped sd
    have h2 : min (PyData.depthAll ds) d.depth ≤ d.depth := Nat.min_le_right _ _
    omega
  rcases he with he | he
  · obtain ⟨bs, r2⟩ := Dp.reads I _ y u he ry
    exact SeqAt.notIn_tuple_reads r2 r1 se (SeqAt.canLay_of_shaped sd) hz ⟨.bl _, H, I, rfl, q⟩
  · obtain ⟨bs, r2⟩ := Dp.reads I _ y u he ry
    exact SeqAt.notIn_list_reads r2 r1 se (SeqAt.canLay_of_shaped sd) hz ⟨.bl _, H, I, rfl, q⟩
/-- the value of a comparison -/
def cmpR (o : Cop) (x y : PV) (μ : Sto) : Res PV := Res.opt ((cmpOp o x y μ).map .bl) μ
theorem isn_rv {M π : List Addr} {H : Hp} {v : PV} {x : V} (r : RW C M π H v x) : decide (x = .non) = isNon v := by
  cases v with
  | non => have h : x = .non := r; subst h; rfl
  | bl b => have h : x = .bl b := r; subst h; rfl
  | int b => have h : x = .int b := r; subst h; rfl
  | str b => have h : x = .str b := r; subst h; rfl
  | tup l => obtain ⟨a, xs, rfl, _⟩ := rv_tup r; rfl
  | lv l => obtain ⟨a, xs, rfl, _⟩ := rv_lv r; rfl
  | sc l => obtain ⟨a, xs, rfl, _⟩ := rv_sc r; rfl
  | dv ks vs => obtain ⟨a, xs, rfl, _⟩ := r; rfl
  | ref i => obtain ⟨a, _, rfl⟩ := rv_ref r; rfl
  | fn f => have h : x = .ref (C.fa f) := r; subst h; rfl
  | exc c fs =>
    have h : RV C M π H (.exc c fs) x := r
    unfold RV at h
    exact h.elim
  | clo k cs => have h : RV C M π H (.clo k cs) x := r; unfold RV at h; exact h.elim
  | rg a b c => have h : RV C M π H (.rg a b c) x := r; unfold RV at h; exact h.elim
  | enu a b => have h : RV C M π H (.enu a b) x := r; unfold RV at h; exact h.elim
  | own a => have h : RV C M π H (.own a) x := r; unfold RV at h; exact h.elim
theorem cmp_inv {o : Option Bool} {M π : List Addr} {ow : List Addr} {H : Hp} {en : Env} {σ : L2.St} {μ : Sto} {Q : VK} (R : RA C M π ow H en σ μ) (h : post C W (RKr k) ow en σ M π H (Res.opt (o.map .bl) μ) Q) : ∃ b, o = some b ∧ Q (.bl b) H := by
  cases o with
  | none => exact h.elim
  | some b => exact ⟨b, rfl, post.val h R (by unfold RV; rfl)⟩
theorem eqM_inv {M π : List Addr} {ow : List Addr} {H : Hp} {en : Env} {σ : L2.St} {μ : Sto} {va vb : PV} {x y : V} {b : Bool} (R : RA C M π ow H en σ μ) (ra : RW C M π H va x) (rb : RW C M π H vb y) (h : eqM μ va vb = some b) :
    ∃ d e, Dp C.K H x d ∧ Dp C.K H y e ∧ SeqAt.shaped d = true ∧ SeqAt.shaped e = true ∧ PyData.eqv d e = b := by
  unfold eqM at h
  split at h
  · rename_i d e h1 h2
    split at h
    · rename_i c
      exact ⟨d, e, dpM R h1 ra, dpM R h2 rb, c.1, c.2, Option.some.inj h⟩
    · cases h
  · cases h
theorem mem_inv {M π : List Addr} {ow : List Addr} {H : Hp} {en : Env} {σ : L2.St} {μ : Sto} {va : PV} {l : List PV} {x : V} {xs : List V} {b : Bool} (R : RA C M π ow H en σ μ) (ra : RW C M π H va x) (rl : RVs C M π H l xs)
    (h : ((datM μ va).bind fun d => memM μ d l) = some b) : ∃ d ds, Dp C.K H x d ∧ DpAll C.K H xs ds ∧ SeqAt.shaped d = true ∧ PyData.canLayAll0 ds = true ∧ (ds.any fun y => PyData.eqv y d) = b := by
  cases h1 : datM μ va with
  | none => rw [h1] at h; cases h
  | some d =>
    rw [h1, Option.bind_some] at h
    unfold memM at h
    split at h
    · rename_i ds h2
      split at h
      · rename_i c
        exact ⟨d, ds, dpM R h1 ra, dpMs R h2 rl, c.1, c.2, Option.some.inj h⟩
      · cases h
    · cases h
end

/-! ### dicts -/
section
variable {C : RC} {M π : List Addr} {ow : List Addr} {H : Hp} {en : Env} {σ : L2.St} {μ : Sto}
theorem key_rv {v : PV} {k : Ky} {x : V} (e : keyOf v = some k) (r : RW C M π H v x) : x = kV k := by
  cases v with
  | int i =>
    have h : x = .int i := r
    subst h
    cases e; rfl
  | str z =>
    have h : x = .str z := r
    subst h
    cases e; rfl
  | _ => cases e
theorem look_rv (k : Ky) : ∀ {ks : List Ky} {vs : List PV} {xs : List V}, ks.length = xs.length → RVs C M π H vs xs → (∀ v, lookK ks vs k = some v → ∃ x, valV (ks.zip xs) k = some x ∧ RV C M π H v x) ∧ (lookK ks vs k = none → valV (ks.zip xs) k = none)
  | [], vs, xs, hl, r => by
    cases xs with
    | nil => exact ⟨fun v h => by (cases vs <;> simp [lookK] at h), fun _ => rfl⟩
    | cons x xs => simp at hl
  | k' :: ks, vs, xs, hl, r => by
    cases vs with
    | nil =>
      unfold RVs at r
      subst r
      simp at hl
    | cons v vs =>
      unfold RVs at r
      obtain ⟨x, xs', rfl, r1, r2⟩ := r
      have ih := look_rv k (ks := ks) (vs := vs) (xs := xs') (by simpa using hl) r2
      rw [List.zip_cons_cons]
      unfold lookK
      by_cases h : k' = k
      · rw [if_pos h, valV_pos (p := (k', x)) h]
        exact ⟨fun w e => by cases e; exact ⟨x, rfl, r1⟩, fun e => by cases e⟩
      · rw [if_neg h, valV_neg (p := (k', x)) h]
        exact ih
theorem upd_rv (k : Ky) {v : PV} {x : V} (rx : RV C M π H v x) : ∀ {ks : List Ky} {vs : List PV} {xs : List V}, ks.length = xs.length → RVs C M π H vs xs →
    ∃ ys, ((ks.zip xs).map fun kv => if kv.1 = k then (kv.1, x) else kv) = ks.zip ys ∧ ks.length = ys.length ∧ RVs C M π H (updK ks vs k v) ys
  | [], vs, xs, hl, r => ⟨[], rfl, rfl, by unfold updK; exact RVs.nil⟩
  | k' :: ks, vs, xs, hl, r => by
    cases vs with
    | nil =>
      unfold RVs at r
      subst r
      simp at hl
    | cons w vs =>
      unfold RVs at r
      obtain ⟨y, xs', rfl, r1, r2⟩ := r
      obtain ⟨ys, e1, e2, e3⟩ := upd_rv k rx (ks := ks) (vs := vs) (xs := xs') (by simpa using hl) r2
      rw [List.zip_cons_cons, List.map_cons, e1]
      unfold updK
      by_cases h : k' = k
      · exact ⟨x :: ys, by simp [h], by simp [e2], by rw [if_pos h]; exact .cons rx e3⟩
      · exact ⟨y :: ys, by simp [h], by simp [e2], by rw [if_neg h]; exact .cons r1 e3⟩
theorem any_zip (k : Ky) : ∀ {ks : List Ky} {xs : List V}, ks.length = xs.length → ((ks.zip xs).any fun kv => decide (kv.1 = k)) = ks.any fun j => decide (j = k)
  | [], xs, _ => rfl
  | k' :: ks, [], h => by simp at h
  | k' :: ks, x :: xs, h => by
    rw [List.zip_cons_cons, List.any_cons, List.any_cons, any_zip k (by simpa using h)]
/-- d[k] = v, the pairs -/
theorem put_rv (k : Ky) {v : PV} {x : V} (rx : RV C M π H v x) {ks : List Ky} {vs : List PV} {xs : List V} (hl : ks.length = xs.length) (r : RVs C M π H vs xs) : ∃ ys, L2.putK (ks.zip xs) k x = (putK ks vs k v).1.zip ys ∧ (putK ks vs k v).1.length = ys.length ∧ RVs C M π H (putK ks vs k v).2 ys := by
  unfold L2.putK putK
  rw [any_zip k hl]
  by_cases h : (ks.any fun j => decide (j = k)) = true
  · rw [if_pos h, if_pos h]
    exact upd_rv k rx hl r
  · rw [if_neg h, if_neg h]
    exact ⟨xs ++ [x], by rw [List.zip_append hl]; rfl, by simp [hl], r.append (.cons rx .nil)⟩
/-- what a dict holds at a key -/
theorem dget_rv {ks : List Ky} {vs : List PV} {xs : List V} {a : Addr} {v : PV} {k : Ky} {y : V} (e : H a = some (.dK (ks.zip xs))) (hl : ks.length = xs.length) (r : RVs C M π H vs xs) (he : keyOf v = some k) (ry : RW C M π H v y) :
    DGet H a y (valV (ks.zip xs) k) ∧ (valV (ks.zip xs) k).isSome = (lookK ks vs k).isSome := by
  refine ⟨by rw [key_rv he ry]; exact .k e, ?_⟩
  have h := look_rv k hl r
  cases hh : lookK ks vs k with
  | none => rw [h.2 hh]; rfl
  | some w =>
    obtain ⟨x, hx, _⟩ := h.1 w hh
    rw [hx]
    rfl
end
section
variable {X : Cx} {C : RC} {W : WX} {k : Bool}
theorem intC_inv {M π : List Addr} {H : Hp} {va vb : PV} {x y : V} {f : Int → Int → Bool} {b : Bool} (ra : RW C M π H va x) (rb : RW C M π H vb y) (h : intC f va vb = some b) : ∃ i j, x = .int i ∧ y = .int j ∧ f i j = b := by
  unfold intC at h
  split at h
  · rename_i i j
    exact ⟨i, j, rv_int ra, rv_int rb, Option.some.inj h⟩
  · cases h
theorem in_inv {M π : List Addr} {ow : List Addr} {H : Hp} {en : Env} {σ : L2.St} {μ : Sto} {va vb : PV} {x y : V} {b : Bool} (R : RA C M π ow H en σ μ) (ra : RW C M π H va x) (rb : RW C M π H vb y) (h : inM μ va vb = some b) :
    (∃ d ds, Dp C.K H x d ∧ (Dp C.K H y (.tuple ds) ∨ Dp C.K H y (.list ds)) ∧ SeqAt.shaped d = true ∧ PyData.canLayAll0 ds = true ∧ (ds.any fun y => PyData.eqv y d) = b) ∨
    (∃ i j, x = .str i ∧ y = .str j ∧ (!(Builtin.Str.occurrences j i 0 j.length 1).isEmpty) = b) ∨
    ∃ a o, y = .ref a ∧ DGet H a x o ∧ o.isSome = b := by
  unfold inM at h
  split at h
  · rename_i l
    obtain ⟨a, xs, rfl, q, r⟩ := rv_tup rb
    obtain ⟨d, ds, h1, h2, h3, h4, h5⟩ := mem_inv R ra r h
    exact .inl ⟨d, ds, h1, .inl (.tup q h2), h3, h4, h5⟩
  · rename_i t
    have e2 := rv_str rb
    subst e2
    split at h
    · rename_i z
      have e1 := rv_str ra
      subst e1
      exact .inr (.inl ⟨z, t, rfl, rfl, Option.some.inj h⟩)
    · cases h
  · rename_i l
    obtain ⟨a, xs, rfl, _, q, r⟩ := rv_lv rb
    obtain ⟨d, ds, h1, h2, h3, h4, h5⟩ := mem_inv R ra r h
    exact .inl ⟨d, ds, h1, .inr (.lst (.of q) h2), h3, h4, h5⟩
  · rename_i ks vs
    obtain ⟨a, xs, rfl, _, q, hl, r⟩ := rb
    obtain ⟨k, hk, e⟩ := Option.map_eq_some_iff.mp h
    have g := dget_rv q hl r hk ra
    exact .inr (.inr ⟨a, _, rfl, g.1, by rw [g.2]; exact e⟩)
  · rename_i i
    obtain ⟨a, ha, rfl⟩ := rv_ref rb
    split at h
    · rename_i l hl
      obtain ⟨a', h1, xs, q, r⟩ := R.sto _ _ hl
      rw [ha] at h1; cases h1
      obtain ⟨d, ds, h1, h2, h3, h4, h5⟩ := mem_inv R ra r h
      exact .inl ⟨d, ds, h1, .inr (.lst (.of q) h2), h3, h4, h5⟩
    · rename_i ks vs hl
      obtain ⟨a', h1, xs, q, hl, r⟩ := R.sto _ _ hl
      rw [ha] at h1; cases h1
      obtain ⟨k, hk, e⟩ := Option.map_eq_some_iff.mp h
      have g := dget_rv q hl r hk ra
      exact .inr (.inr ⟨a, _, rfl, g.1, by rw [g.2]; exact e⟩)
    · cases h
  · cases h
theorem op_cmp (hK : C.K = X.K) (hu : X.A.units + 65 < cLine) (o : Cop) : OpR X (compareOp (copM o)) (rV C W k (cmpR o)) := by
  intro pins s σ H x y v u Q I rx ry h
  obtain ⟨en, σ', μ, π, M, ow, va, vb, R, ra, rb, h⟩ := h
  obtain ⟨b, e, q⟩ := cmp_inv R h
  cases o with
  | eq =>
    obtain ⟨d, e', h1, h2, h3, h4, h5⟩ := eqM_inv R ra rb e
    exact op_eqD (by omega) pins s σ H x y v u Q I rx ry ⟨d, e', hK ▸ h1, hK ▸ h2, h3, h4, by rw [h5]; exact q⟩
  | ne =>
    obtain ⟨b', e1, e2⟩ := Option.map_eq_some_iff.mp e
    obtain ⟨d, e', h1, h2, h3, h4, h5⟩ := eqM_inv R ra rb e1
    exact op_neD (by omega) pins s σ H x y v u Q I rx ry ⟨d, e', hK ▸ h1, hK ▸ h2, h3, h4, by rw [h5, e2]; exact q⟩
  | lt =>
    obtain ⟨i, j, rfl, rfl, e1⟩ := intC_inv ra rb e
    exact op_lt pins s σ H _ _ v u Q I rx ry ⟨i, j, rfl, rfl, by show Q (.bl (decide _)) H; rw [e1]; exact q⟩
  | le =>
    obtain ⟨i, j, rfl, rfl, e1⟩ := intC_inv ra rb e
    exact op_le pins s σ H _ _ v u Q I rx ry ⟨i, j, rfl, rfl, by show Q (.bl (decide _)) H; rw [e1]; exact q⟩
  | gt =>
    obtain ⟨i, j, rfl, rfl, e1⟩ := intC_inv ra rb e
    exact op_gt pins s σ H _ _ v u Q I rx ry ⟨i, j, rfl, rfl, by show Q (.bl (decide _)) H; rw [e1]; exact q⟩
  | ge =>
    obtain ⟨i, j, rfl, rfl, e1⟩ := intC_inv ra rb e
    exact op_ge pins s σ H _ _ v u Q I rx ry ⟨i, j, rfl, rfl, by show Q (.bl (decide _)) H; rw [e1]; exact q⟩
  | isn =>
    unfold cmpOp at e
    cases vb <;> try cases e
    have hy : y = .non := rb
    subst hy
    exact op_isN pins s σ H _ _ v u Q I rx ry ⟨rfl, by rw [isn_rv ra]; exact q⟩
  | nisn =>
    unfold cmpOp at e
    cases vb <;> try cases e
    have hy : y = .non := rb
    subst hy
    refine op_notN pins s σ H _ _ v u Q I rx ry ⟨rfl, ?_⟩
    rw [isn_rv ra]
    exact q
  | mem =>
    rcases in_inv R ra rb e with ⟨d, ds, h1, h2, h3, h4, h5⟩ | ⟨i, j, rfl, rfl, h5⟩ | ⟨a, o, rfl, h1, h2⟩
    · exact op_inT hu pins s σ H x y v u Q I rx ry ⟨d, ds, hK ▸ h1, by rw [← hK]; exact h2, h3, h4, by rw [h5]; exact q⟩
    · exact op_in_str pins s σ H _ _ v u Q I rx ry ⟨i, j, rfl, rfl, by rw [h5]; exact q⟩
    · cases ry
      exact d_in (by omega) I h1 rx fun s' I' => ⟨.bl _, H, I', rfl, by rw [h2]; exact q⟩
  | nmem =>
    obtain ⟨b', e1, e2⟩ := Option.map_eq_some_iff.mp e
    rcases in_inv R ra rb e1 with ⟨d, ds, h1, h2, h3, h4, h5⟩ | ⟨i, j, rfl, rfl, h5⟩ | ⟨a, o, rfl, h1, h2⟩
    · exact op_notInT hu pins s σ H x y v u Q I rx ry ⟨d, ds, hK ▸ h1, by rw [← hK]; exact h2, h3, h4, by rw [h5, e2]; exact q⟩
    · exact op_notIn_str pins s σ H _ _ v u Q I rx ry ⟨i, j, rfl, rfl, by rw [h5, e2]; exact q⟩
    · cases ry
      exact d_notIn (by omega) I h1 rx fun s' I' => ⟨.bl _, H, I', rfl, by rw [h2, e2]; exact q⟩
end
end OL
end
section
set_option Elab.async false
set_option linter.all false
set_option maxRecDepth 100000
/-! OL, part g: subscripts, slices, tests of kinds, truth, by values. -/
namespace OL
open PySem PySem.Spec PyProof.Rows L2

section
variable {C : RC} {M π : List Addr} {ow : List Addr} {H : Hp} {en : Env} {σ : L2.St} {μ : Sto}
theorem atI_rv {l : List PV} {xs : List V} {i : Int} {v : PV} (r : RVs C M π H l xs) (e : atI l i = some v) : ∃ x, atI xs i = some x ∧ RV C M π H v x := by
  unfold atI at e ⊢
  rw [r.length] at e
  cases h : ixN xs.length i with
  | none => rw [h] at e; cases e
  | some j =>
    rw [h] at e
    exact r.get e
theorem cut_rv {l : List PV} {xs : List V} {lo hi : Option Int} (r : RVs C M π H l xs) : RVs C M π H (cutL l lo hi) (cutV xs lo hi) := by
  unfold cutL cutV
  rw [r.length]
  exact (r.drop _).take _
/-- a store's list -/
theorem RA.lst (R : RA C M π ow H en σ μ) {i : Nat} {l : List PV} (h : μ[i]? = some (.lst l)) {x : V} (rx : RW C M π H (.ref i) x) : ∃ a xs, x = .ref a ∧ H a = some (.lst xs) ∧ RVs C M π H l xs := by
  obtain ⟨a, ha, rfl⟩ := rv_ref rx
  obtain ⟨a', h1, xs, q, r⟩ := R.sto _ _ h
  rw [ha] at h1; cases h1
  exact ⟨a, xs, rfl, q, r⟩
theorem RA.dct (R : RA C M π ow H en σ μ) {i : Nat} {ks : List Ky} {vs : List PV} (h : μ[i]? = some (.dct ks vs)) {x : V} (rx : RW C M π H (.ref i) x) : ∃ a xs, x = .ref a ∧ H a = some (.dK (ks.zip xs)) ∧ ks.length = xs.length ∧ RVs C M π H vs xs := by
  obtain ⟨a, ha, rfl⟩ := rv_ref rx
  obtain ⟨a', h1, xs, q, hl, r⟩ := R.sto _ _ h
  rw [ha] at h1; cases h1
  exact ⟨a, xs, rfl, q, hl, r⟩
end
/-- a[i], a value -/
def idxR (x y : PV) (μ : Sto) : Res PV := Res.opt (idxM μ x y) μ
section
variable {X : Cx} {C : RC} {W : WX} {k : Bool}
theorem ix_all (hK : C.K = X.K) (hu : X.A.units + 65 < cLine) : IxR X (rV C W k idxR) := by
  intro value slice pins s σ H x y v u Q I rx ry h hs
  obtain ⟨en, σ', μ, π, M, ow, va, vb, R, ra, rb, h⟩ := h
  obtain ⟨w, e, h2⟩ := opt_inv h
  clear h
  unfold idxM at e
  have dict : ∀ {a : Addr} {ks : List Ky} {vs : List PV} {xs : List V} {j : Ky}, x = .ref a → H a = some (.dK (ks.zip xs)) → ks.length = xs.length → RVs C M π H vs xs → keyOf vb = some j → lookK ks vs j = some w →
      wpAny (model X.prog X.w) X.A (subscriptTail value slice v u) (EP X pins σ Q) X.xe s := fun {a ks vs xs j} ex ha hl r hk e => by
    subst ex
    cases rx
    obtain ⟨z, hz, rz⟩ := (look_rv j hl r).1 w e
    have g := (dget_rv ha hl r hk rb).1
    rw [hz] at g
    obtain ⟨z', hd, vs', rel, dd⟩ := dk_rd I.hok (.inl ha)
    refine tail_any dd.mapOf.typeIs slot_dict_getitem.lookup (d_getItem (by omega) I g ry fun w' s' I' rw' => ⟨z, H, I', rw', h2.val R rz⟩) hs
  split at e
  · obtain ⟨a, xs, rfl, q, r⟩ := rv_tup ra
    have e2 := rv_int rb
    subst e2
    obtain ⟨z, e1, rz⟩ := atI_rv r e
    exact ix_tup value slice pins s σ H _ _ v u Q I rx ry ⟨a, xs, _, z, rfl, rfl, hK ▸ q, e1, h2.val R rz⟩ hs
  · rename_i z i
    have e1 := rv_str ra
    have e2 := rv_int rb
    subst e1 e2
    split at e
    · rename_i hz
      obtain ⟨c, e1, e2⟩ := Option.map_eq_some_iff.mp e
      subst e2
      rw [szl] at hz
      exact ix_str value slice pins s σ H _ _ v u Q I rx ry ⟨z, i, c, rfl, rfl, hz, e1, h2.val R (by unfold RV; rfl)⟩ hs
    · cases e
  · obtain ⟨a, xs, rfl, _, q, r⟩ := rv_lv ra
    have e2 := rv_int rb
    subst e2
    obtain ⟨z, e1, rz⟩ := atI_rv r e
    exact ix_list value slice pins s σ H _ _ v u Q I rx ry ⟨a, xs, _, z, rfl, rfl, .inl (.inl q), e1, h2.val R rz⟩ hs
  · rename_i i j
    have e2 := rv_int rb
    subst e2
    split at e
    · rename_i l hl
      obtain ⟨a, xs, rfl, q, r⟩ := R.lst hl ra
      obtain ⟨z, e1, rz⟩ := atI_rv r e
      exact ix_list value slice pins s σ H _ _ v u Q I rx ry ⟨a, xs, _, z, rfl, rfl, .inl (.inl q), e1, h2.val R rz⟩ hs
    · cases e
  · rename_i ks vs
    obtain ⟨a, xs, ex, _, q, hl, r⟩ := ra
    obtain ⟨j, hj, e⟩ := Option.bind_eq_some_iff.mp e
    exact dict ex q hl r hj e
  · rename_i i j
    split at e
    · rename_i ks vs hl
      obtain ⟨a, xs, ex, q, hl, r⟩ := R.dct hl ra
      exact dict ex q hl r (j := .inr j) rfl e
    · cases e
  · cases e

/-- a[lo:hi], by values -/
def rC (C : RC) (W : WX) (k : Bool) : V → Option Int → Option Int → Hp → VK → Prop := fun x lo hi H Q => ∃ en σ μ π M ow va, RA C M π ow H en σ μ ∧ RW C M π H va x ∧ post C W (RKr k) ow en σ M π H (Res.opt (cutM va lo hi) μ) Q
theorem cut_whole {l : List PV} {lo hi : Option Int} (h : HT.sIx l.length 0 lo = 0 ∧ HT.sIx l.length l.length hi = l.length) : cutL l lo hi = l := by
  unfold cutL
  rw [h.1, h.2]
  simp
theorem sl_all (hK : C.K = X.K) : SlR X (rC C W k) := by
  intro pins s σ H x v vl vu lo hi sl Q I rx hs pl pu h
  obtain ⟨en, σ', μ, π, M, ow, va, R, ra, h⟩ := h
  obtain ⟨w, e, h2⟩ := opt_inv h
  clear h
  unfold cutM at e
  split at e
  · rename_i l
    cases e
    obtain ⟨a, xs, rfl, q, r⟩ := rv_tup ra
    refine sl_tupA pins s σ H _ v vl vu lo hi sl Q I rx hs pl pu ⟨a, xs, rfl, hK ▸ q, fun hw => ?_, fun _ p hp => h2.valN R hp (rv_new hp R (cut_rv r))⟩
    rw [← r.length] at hw
    rw [cut_whole hw] at h2
    exact h2.val R ra
  · rename_i l
    cases e
    obtain ⟨a, xs, rfl, _, q, r⟩ := rv_lv ra
    exact sl_list pins s σ H _ v vl vu lo hi sl Q I rx hs pl pu ⟨a, xs, rfl, .inl (.inl q), fun p hp => h2.valN R hp (rv_newL hp R (cut_rv r))⟩
  · rename_i z
    have e1 := rv_str ra
    subst e1
    split at e
    · rename_i hz
      cases e
      rw [szl] at hz
      exact sl_str pins s σ H _ v vl vu lo hi sl Q I rx hs pl pu ⟨z, rfl, hz, h2.val R (by unfold RV; rfl)⟩
    · cases e
  · cases e

/-! ### truth -/
theorem tru_rv (hK : C.K = X.K) {M π : List Addr} {ow : List Addr} {H : Hp} {en : Env} {σ : L2.St} {μ : Sto} {v : PV} {x : V} {b : Bool} (R : RA C M π ow H en σ μ) (r : RW C M π H v x) (h : truth μ v = some b) : TruV X.K x H b := by
  have em : ∀ {l : List PV} {xs : List V}, RVs C M π H l xs → l.isEmpty = xs.isEmpty := fun {l xs} r => by
    have e := r.length
    cases l <;> cases xs <;> simp_all
  unfold truth at h
  split at h
  · have e : x = .non := r
    subst e; cases h; rfl
  · have e := rv_bl r
    subst e; cases h; rfl
  · have e := rv_int r
    subst e; cases h; rfl
  · rename_i z
    have e := rv_str r
    subst e
    split at h
    · rename_i hz
      cases h
      rw [szl] at hz
      refine ⟨hz, ?_⟩
      cases z.length <;> simp <;> omega
    · cases h
  · rename_i l
    obtain ⟨a, xs, rfl, q, r⟩ := rv_tup r
    cases h
    exact .inr (.inl ⟨xs, hK ▸ q, by rw [em r]⟩)
  · rename_i l
    obtain ⟨a, xs, rfl, _, q, r⟩ := rv_lv r
    cases h
    exact .inl ⟨xs, .inl (.inl q), by rw [em r]⟩
  · rename_i i
    split at h
    · rename_i l hl
      obtain ⟨a, xs, rfl, q, r⟩ := R.lst hl r
      cases h
      exact .inl ⟨xs, .inl (.inl q), by rw [em r]⟩
    · cases h
  · cases h

/-! ### lists of arguments -/
/-- looked at -/
def RWs (C : RC) (M π : List Addr) (H : Hp) : List PV → List V → Prop
  | [], xs => xs = []
  | v :: r, xs => ∃ x xs', xs = x :: xs' ∧ RW C M π H v x ∧ RWs C M π H r xs'
theorem RVs.rws {M π : List Addr} {H : Hp} (hs : ∀ a ∈ π, a ∈ M) : ∀ {l : List PV} {xs : List V}, RVs C M π H l xs → RWs C M π H l xs
  | [], xs, h => by unfold RVs at h; exact h
  | v :: r, xs, h => by
    unfold RVs at h
    obtain ⟨x, xs', e, h1, h2⟩ := h
    exact ⟨x, xs', e, h1.rw hs, RVs.rws hs h2⟩
theorem RWs.st {M π M' π' : List Addr} {H H' : Hp} (s : St M π H M' π' H') (hs : ∀ a ∈ π, a ∈ M) (hs' : ∀ a ∈ π', a ∈ M') : ∀ {l : List PV} {xs : List V}, RWs C M π H l xs → RWs C M' π' H' l xs
  | [], xs, h => h
  | v :: r, xs, h => by
    obtain ⟨x, xs', e, h1, h2⟩ := h
    exact ⟨x, xs', e, h1.st s hs hs', RWs.st s hs hs' h2⟩
/-- kept (true), or only looked at -/
def RKs (k : Bool) (C : RC) (M π : List Addr) (H : Hp) (v : List PV) (u : List V) : Prop := if k = true then RVs C M π H v u else RWs C M π H v u
abbrev tLk (C : RC) (W : WX) (k : Bool) (r : Env → Sto → Res (List PV)) : TA := tR C W (fun _ _ _ => RKs k) r
theorem RKs.rws {M π : List Addr} {H : Hp} {k : Bool} (hs : ∀ a ∈ π, a ∈ M) {l : List PV} {xs : List V} (h : RKs k C M π H l xs) : RWs C M π H l xs := by
  cases k with
  | true => exact RVs.rws hs h
  | false => exact h
theorem RKs.nil {M π : List Addr} {H : Hp} {k : Bool} : RKs k C M π H [] [] := by
  cases k with
  | true => exact (RVs.nil : RVs C M π H [] [])
  | false => exact (rfl : ([] : List V) = [])
theorem RKs.cons {M π : List Addr} {H : Hp} {k : Bool} {v : PV} {x : V} {l : List PV} {xs : List V} (h : RK k C M π H v x) (r : RKs k C M π H l xs) : RKs k C M π H (v :: l) (x :: xs) := by
  cases k with
  | true => exact RVs.cons h r
  | false => exact ⟨x, xs, rfl, h, r⟩
theorem RK.st {M π M' π' : List Addr} {H H' : Hp} (s : St M π H M' π' H') (hs : ∀ a ∈ π, a ∈ M) (hs' : ∀ a ∈ π', a ∈ M') {k : Bool} {v : PV} {x : V} (h : RK k C M π H v x) : RK k C M' π' H' v x := by
  cases k with
  | true => exact RV.st s hs h
  | false => exact RW.st s hs hs' h
end
end OL
end
section
set_option Elab.async false
set_option linter.all false
set_option maxRecDepth 100000
/-! OL, part h: built-in functions by values. -/
namespace OL
open PySem PySem.Spec PyProof.Rows L2

/-- by values that are looked at -/
def rN (C : RC) (W : WX) (rl : Rl PV V) (g : List PV → Sto → Res PV) : List V → Hp → VK → Prop := fun xs H Q => ∃ en σ μ π M ow l, RA C M π ow H en σ μ ∧ RWs C M π H l xs ∧ post C W rl ow en σ M π H (g l μ) Q
section
variable {C : RC} {M π : List Addr} {ow : List Addr} {H : Hp} {en : Env} {σ : L2.St} {μ : Sto}
theorem rws1 {v : PV} {xs : List V} (h : RWs C M π H [v] xs) : ∃ x, xs = [x] ∧ RW C M π H v x := by
  obtain ⟨x, xs', rfl, h1, h2⟩ := h
  have e : xs' = [] := h2
  exact ⟨x, by rw [e], h1⟩
theorem rws2 {v w : PV} {xs : List V} (h : RWs C M π H [v, w] xs) : ∃ x y, xs = [x, y] ∧ RW C M π H v x ∧ RW C M π H w y := by
  obtain ⟨x, xs', rfl, h1, h2⟩ := h
  obtain ⟨y, rfl, h3⟩ := rws1 h2
  exact ⟨x, y, rfl, h1, h3⟩
theorem ints_rv : ∀ {l : List PV} {is : List Int} {xs : List V}, intsOf l = some is → RVs C M π H l xs → xs = is.map V.int
  | [], is, xs, e, r => by
    unfold RVs at r
    cases e
    exact r
  | v :: l, is, xs, e, r => by
    unfold RVs at r
    obtain ⟨x, xs', rfl, h1, h2⟩ := r
    cases v with
    | int i =>
      unfold intsOf at e
      obtain ⟨js, e1, e2⟩ := Option.map_eq_some_iff.mp e
      subst e2
      have e3 : x = .int i := h1
      rw [e3, ints_rv e1 h2, List.map_cons]
    | _ => cases e
theorem ints_rw : ∀ {l : List PV} {is : List Int} {xs : List V}, intsOf l = some is → RWs C M π H l xs → xs = is.map V.int
  | [], is, xs, e, r => by
    cases e
    exact r
  | v :: l, is, xs, e, r => by
    obtain ⟨x, xs', rfl, h1, h2⟩ := r
    cases v with
    | int i =>
      unfold intsOf at e
      obtain ⟨js, e1, e2⟩ := Option.map_eq_some_iff.mp e
      subst e2
      have e3 : x = .int i := h1
      rw [e3, ints_rw e1 h2, List.map_cons]
    | _ => cases e
theorem bools_rv : ∀ {l : List PV} {is : List Bool} {xs : List V}, boolsOf l = some is → RVs C M π H l xs → xs = is.map V.bl
  | [], is, xs, e, r => by
    unfold RVs at r
    cases e
    exact r
  | v :: l, is, xs, e, r => by
    unfold RVs at r
    obtain ⟨x, xs', rfl, h1, h2⟩ := r
    cases v with
    | bl i =>
      unfold boolsOf at e
      obtain ⟨js, e1, e2⟩ := Option.map_eq_some_iff.mp e
      subst e2
      have e3 : x = .bl i := h1
      rw [e3, bools_rv e1 h2, List.map_cons]
    | _ => cases e
/-- a list that is looked at -/
theorem lst_rw (R : RA C M π ow H en σ μ) {v : PV} {l : List PV} {x : V} (e : lstM μ v = some l) (r : RW C M π H v x) : ∃ a xs, x = .ref a ∧ H a = some (.lst xs) ∧ RVs C M π H l xs := by
  unfold lstM at e
  split at e
  · split at e
    · rename_i hl
      cases e
      exact R.lst hl r
    · cases e
  · cases e
    obtain ⟨a, xs, h1, _, h2, h3⟩ := rv_lv r
    exact ⟨a, xs, h1, h2, h3⟩
  · cases e
/-- a list or a tuple -/
theorem seq_rw (R : RA C M π ow H en σ μ) {v : PV} {l : List PV} {x : V} (e : itAll μ v = some l) (r : RW C M π H v x) : ∃ a xs, x = .ref a ∧ RVs C M π H l xs ∧ (H a = some (.lst xs) ∨ (v = .tup l ∧ SqT C.K H a xs)) := by
  unfold itAll at e
  split at e
  · cases e
    obtain ⟨a, xs, h1, h2, h3⟩ := rv_tup r
    exact ⟨a, xs, h1, h3, .inr ⟨rfl, h2⟩⟩
  · cases e
    obtain ⟨a, xs, h1, _, h2, h3⟩ := rv_lv r
    exact ⟨a, xs, h1, h3, .inl h2⟩
  · split at e
    · rename_i hl
      cases e
      obtain ⟨a, xs, h1, h2, h3⟩ := R.lst hl r
      exact ⟨a, xs, h1, h3, .inl h2⟩
    · cases e
  · rename_i a b c
    have h1 : RV C M π H (.rg a b c) x := r
    unfold RV at h1
    exact h1.elim
  · cases e
end
section
variable {X : Cx} {C : RC} {W : WX} {k : Bool}
theorem cr_len (hK : C.K = X.K) : CallR X (.builtin "len") (rN C W (RKr k) (bltM .len)) := by
  intro pins s σ H xs us Q I r h
  obtain ⟨en, σ', μ, π, M, ow, l, R, rl, h⟩ := h
  unfold bltM at h
  dsimp only at h
  split at h
  · rename_i v
    obtain ⟨w, e, h2⟩ := opt_inv h
    obtain ⟨n, e1, rfl⟩ := Option.map_eq_some_iff.mp e
    obtain ⟨x, rfl, rx⟩ := rws1 rl
    have hq : Q (.int n) H := h2.val R (by unfold RV; rfl)
    unfold lenM at e1
    split at e1
    · obtain ⟨a, xs, rfl, h3, h4⟩ := rv_tup rx
      cases e1
      exact call_len pins s σ H _ us Q I r ⟨_, _, rfl, .inr ⟨xs, hK ▸ h3, h4.length⟩, hq⟩
    · obtain ⟨a, xs, rfl, _, h3, h4⟩ := rv_lv rx
      cases e1
      exact call_len pins s σ H _ us Q I r ⟨_, _, rfl, .inl ⟨xs, .inl (.inl h3), h4.length⟩, hq⟩
    · obtain ⟨a, xs, rfl, h3, h4⟩ := rv_sc rx
      cases e1
      exact call_len pins s σ H _ us Q I r ⟨_, _, rfl, .inl ⟨xs, hK ▸ h3.sqL, h4.length⟩, hq⟩
    · obtain ⟨a, xs, rfl, _, h3, hl, h4⟩ := rx
      cases e1
      refine call_lenD pins s σ H _ us Q I r ⟨_, _, rfl, h3, ?_⟩
      rw [List.length_zip, ← hl, Nat.min_self]
      exact hq
    · rename_i z
      have e2 := rv_str rx
      subst e2
      split at e1
      · rename_i hz
        cases e1
        rw [szl] at hz
        exact call_len pins s σ H _ us Q I r ⟨_, _, rfl, ⟨hz, rfl⟩, hq⟩
      · cases e1
    · split at e1
      · rename_i hl
        obtain ⟨a, xs, rfl, h3, h4⟩ := R.lst hl rx
        cases e1
        exact call_len pins s σ H _ us Q I r ⟨_, _, rfl, .inl ⟨xs, .inl (.inl h3), h4.length⟩, hq⟩
      · rename_i hd
        obtain ⟨a, xs, rfl, h3, hl, h4⟩ := R.dct hd rx
        cases e1
        refine call_lenD pins s σ H _ us Q I r ⟨_, _, rfl, h3, ?_⟩
        rw [List.length_zip, ← hl, Nat.min_self]
        exact hq
      · cases e1
    · cases e1
  · exact h.elim
theorem cr_any1 (hK : C.K = X.K) (hc : X.calm = true) : CallR X (.builtin "any") (rN C W (RKr k) (bltM .any)) := by
  intro pins s σ H xs us Q I r h
  obtain ⟨en, σ', μ, π, M, ow, l, R, rl, h⟩ := h
  unfold bltM at h
  dsimp only at h
  split at h
  · rename_i v
    obtain ⟨w, e, h2⟩ := opt_inv h
    obtain ⟨l, e1, e⟩ := Option.bind_eq_some_iff.mp e
    obtain ⟨bs, e2, rfl⟩ := Option.map_eq_some_iff.mp e
    obtain ⟨x, rfl, rx⟩ := rws1 rl
    obtain ⟨a, xs, rfl, h3, h4⟩ := lst_rw R e1 rx
    have e3 := bools_rv e2 h4
    subst e3
    exact cr_any hc pins s σ H _ us Q I r ⟨a, bs, rfl, .inl (.inl h3), h2.val R (by unfold RV; rfl)⟩
  · exact h.elim
theorem cr_all1 (hK : C.K = X.K) (hc : X.calm = true) : CallR X (.builtin "all") (rN C W (RKr k) (bltM .all)) := by
  intro pins s σ H xs us Q I r h
  obtain ⟨en, σ', μ, π, M, ow, l, R, rl, h⟩ := h
  unfold bltM at h
  dsimp only at h
  split at h
  · rename_i v
    obtain ⟨w, e, h2⟩ := opt_inv h
    obtain ⟨l, e1, e⟩ := Option.bind_eq_some_iff.mp e
    obtain ⟨bs, e2, rfl⟩ := Option.map_eq_some_iff.mp e
    obtain ⟨x, rfl, rx⟩ := rws1 rl
    obtain ⟨a, xs, rfl, h3, h4⟩ := lst_rw R e1 rx
    have e3 := bools_rv e2 h4
    subst e3
    exact cr_all hc pins s σ H _ us Q I r ⟨a, bs, rfl, .inl (.inl h3), h2.val R (by unfold RV; rfl)⟩
  · exact h.elim
theorem cr_sum1 (hK : C.K = X.K) (hc : X.calm = true) : CallR X (.builtin "sum") (rN C W (RKr k) (bltM .sum)) := by
  intro pins s σ H xs us Q I r h
  obtain ⟨en, σ', μ, π, M, ow, l, R, rl, h⟩ := h
  unfold bltM at h
  dsimp only at h
  split at h
  · rename_i v
    obtain ⟨w, e, h2⟩ := opt_inv h
    obtain ⟨l, e1, e⟩ := Option.bind_eq_some_iff.mp e
    obtain ⟨bs, e2, rfl⟩ := Option.map_eq_some_iff.mp e
    obtain ⟨x, rfl, rx⟩ := rws1 rl
    obtain ⟨a, xs, rfl, h3, h4⟩ := lst_rw R e1 rx
    have e3 := ints_rv e2 h4
    subst e3
    exact cr_sum hc pins s σ H _ us Q I r ⟨a, bs, rfl, .inl (.inl h3), h2.val R (by unfold RV; rfl)⟩
  · exact h.elim
theorem cr_int1 : CallR X (.type "int") (rN C W (RKr k) (bltM .int)) := by
  intro pins s σ H xs us Q I r h
  obtain ⟨en, σ', μ, π, M, ow, l, R, rl, h⟩ := h
  unfold bltM at h
  dsimp only at h
  split at h
  · rename_i i
    obtain ⟨x, rfl, rx⟩ := rws1 rl
    have e := rv_int rx
    subst e
    exact call_int1 pins s σ H _ us Q I r (.inl ⟨i, rfl, h.val R (by unfold RV; rfl)⟩)
  · rename_i b
    obtain ⟨x, rfl, rx⟩ := rws1 rl
    have e := rv_bl rx
    subst e
    exact call_int1 pins s σ H _ us Q I r (.inr ⟨b, rfl, h.val R (by unfold RV; rfl)⟩)
  · exact h.elim
theorem cr_abs1 : CallR X (.builtin "abs") (rN C W (RKr k) (bltM .abs)) := by
  intro pins s σ H xs us Q I r h
  obtain ⟨en, σ', μ, π, M, ow, l, R, rl, h⟩ := h
  unfold bltM at h
  dsimp only at h
  split at h
  · rename_i i
    obtain ⟨x, rfl, rx⟩ := rws1 rl
    have e := rv_int rx
    subst e
    have hq : Q (.int i.natAbs) H := h.val R (by unfold RV; rfl)
    refine call_abs pins s σ H _ us Q I r ⟨i, rfl, ?_⟩
    have e : (if i < 0 then -i else i) = (i.natAbs : Int) := by split <;> omega
    rw [e]
    exact hq
  · exact h.elim
theorem cr_gcd1 : CallR X (.builtin "math.gcd") (rN C W (RKr k) (bltM .gcd)) := by
  intro pins s σ H xs us Q I r h
  obtain ⟨en, σ', μ, π, M, ow, l, R, rl, h⟩ := h
  unfold bltM at h
  dsimp only at h
  split at h
  · rename_i i j
    obtain ⟨x, y, rfl, rx, ry⟩ := rws2 rl
    have e := rv_int rx
    subst e
    have e := rv_int ry
    subst e
    exact cr_gcd pins s σ H _ us Q I r ⟨i, j, rfl, h.val R (by unfold RV; rfl)⟩
  · exact h.elim
theorem cr_list1 {rl : Rl PV V} (nw : NewOk C W rl) (hK : C.K = X.K) : CallR X (.type "list") (rN C W rl (bltM .list)) := by
  intro pins s σ H xs us Q I r h
  obtain ⟨en, σ', μ, π, M, ow, l, R, rl, h⟩ := h
  unfold bltM at h
  dsimp only at h
  split at h
  · rename_i v
    split at h
    · rename_i l e
      unfold newL at h
      split at h
      · obtain ⟨x, rfl, rx⟩ := rws1 rl
        obtain ⟨a, xs, rfl, h3, h4⟩ := seq_rw R e rx
        exact call_list_of pins s σ H _ us Q I r ⟨a, xs, rfl, h4.imp (fun h => .inl (.inl h)) (fun h => hK ▸ h.2), fun p hp => nw.lst R hp h3 h⟩
      · exact h.elim
    · exact h.elim
  · exact h.elim
theorem cr_tuple1 (hK : C.K = X.K) : CallR X (.type "tuple") (rN C W (RKr k) (bltM .tuple)) := by
  intro pins s σ H xs us Q I r h
  obtain ⟨en, σ', μ, π, M, ow, l, R, rl, h⟩ := h
  unfold bltM at h
  dsimp only at h
  split at h
  · rename_i v
    obtain ⟨w, e, h2⟩ := opt_inv h
    obtain ⟨l, e1, e⟩ := Option.bind_eq_some_iff.mp e
    split at e
    · cases e
      obtain ⟨x, rfl, rx⟩ := rws1 rl
      obtain ⟨a, xs, rfl, h3, h4⟩ := seq_rw R e1 rx
      rcases h4 with h4 | ⟨rfl, h4⟩
      · exact call_tuple_of pins s σ H _ us Q I r ⟨a, xs, rfl, .inl ⟨.inl (.inl h4), fun p hp => h2.valN R hp (rv_new hp R h3)⟩⟩
      · exact call_tuple_of pins s σ H _ us Q I r ⟨a, xs, rfl, .inr ⟨hK ▸ h4, h2.val R rx⟩⟩
    · cases e
  · exact h.elim
end
end OL
end
section
set_option Elab.async false
set_option linter.all false
set_option maxRecDepth 100000
/-! OL, part i: min, max, sorted, repr. -/
namespace OL
open PySem PySem.Spec PyProof.Rows L2

section
variable {prog : Program} {w : World} {A : Around} {E : Value → Shared → Prop} {s : Shared}
theorem collect_tup {l : Addr} {vs : List Value} {Q : List Value → Shared → Prop} (hl : s.heap.IsTuple l vs.toArray)
    (h : Q vs { s with heap := (s.heap.push (seqObj "list" #[] 0)).update s.heap.objs.size (Obj.mapSeq (· ++ vs.toArray)) }) (hsz : vs.length ≤ sizeLine) :
    wpAny (model prog w) A (collect (.ref l)) Q E s := by
  obtain ⟨o, ho, hc, n, hd⟩ := id hl
  unfold collect
  refine wpAny_bind (wpAny_runValue (codeAny_builtin entry_proto_collect' ?_))
  show wpAny _ _ (do again (.builtin "list.__iadd__" ⟨[← newList [], .ref l], []⟩)) _ _ s
  refine wpAny_bind (wpAny_newList (wpAny_pure ⟨Code.quiet_builtin _ (by decide +kernel), codeAny_builtin entry_list_iadd' ?_⟩))
  show wpAny _ _ (Builtin.List.listExtendWith (.ref s.heap.objs.size) (.ref l) (.ref s.heap.objs.size)) _ _ { s with heap := s.heap.push (seqObj "list" #[] 0) }
  unfold Builtin.List.listExtendWith
  have ho' : (s.heap.push (seqObj "list" #[] 0)).get? l = some o := Heap.get?_push_of_some _ ho
  refine wpAny_bind (wpAny_typeOf (T := "tuple") ⟨o, ho', hc⟩ ?_)
  have ht : (Value.type "tuple" == Value.type "tuple") = true := by rfl
  rw [if_pos (by rw [ht]; simp)]
  refine wpAny_bind (listItems_at ho' hd ?_)
  refine wpAny_bind (listItems_at (xs := #[]) (n := 0) (Heap.get?_push_size _ rfl) rfl ?_)
  rw [if_neg (by simp)]
  refine wpAny_bind (listUpdate_at (xs := #[]) (n := 0) (Heap.get?_push_size _ rfl) rfl ?_ (Nat.zero_le _) (by show (#[] ++ vs.toArray).size ≤ sizeLine + 1; simp only [Array.size_append, List.size_toArray, List.length_nil]; omega))
  refine wpAny_pure ?_
  show wpAny (model prog w) A (do
      let o ← load s.heap.objs.size
      match o.data with
      | .seq xs _ => pure xs.toList
      | _ => unsupported "internal:collect") Q E { s with heap := (s.heap.push (seqObj "list" #[] 0)).update s.heap.objs.size (Obj.mapSeq (· ++ vs.toArray)) }
  refine wpAny_bind (wpAny_load (get?_update_seq (Heap.get?_push_size _ rfl) _) ?_)
  show wpAny _ _ (pure ((#[] : Array Value) ++ vs.toArray).toList) Q E _
  rw [show ((#[] : Array Value) ++ vs.toArray).toList = vs by simp]
  exact wpAny_pure h
/-- a list or a tuple -/
def IsSq (h : Heap) (l : Addr) (vs : List Value) : Prop := h.IsList l vs.toArray ∨ h.IsTuple l vs.toArray
theorem collect_sq {l : Addr} {vs : List Value} {Q : List Value → Shared → Prop} (hl : IsSq s.heap l vs)
    (h : Q vs { s with heap := (s.heap.push (seqObj "list" #[] 0)).update s.heap.objs.size (Obj.mapSeq (· ++ vs.toArray)) }) (hsz : vs.length ≤ sizeLine) :
    wpAny (model prog w) A (collect (.ref l)) Q E s := by
  rcases hl with hl | hl
  · exact collect_list hl h hsz
  · exact collect_tup hl h hsz
open PySem.W in
theorem sorted_sq {κ : KeyKind} {l : Addr} {vs : List Value} {Q : Value → Shared → Prop} (hl : IsSq s.heap l vs) (S : SortsAt prog w A.in1.in1 { s with heap := sortingHeap (copyHeap s.heap vs) (s.heap.objs.size + 1) vs } κ vs) (hL : vs.length ≤ sizeLine)
    (h : Q (.ref (s.heap.objs.size + 1)) { s with heap := sortedAll s.heap vs (sortVals κ false vs vs).toArray }) : wpAny (model prog w) A (call (.builtin "sorted") [.ref l]) Q E s := by
  refine call_function_entry_kw kind_sorted plain_sorted entry_sorted (args_sorted1 _) ?_
  unfold Builtin.«sorted»
  refine wpAny_bind (m := checkCount "sorted" 1 1 _) (wpAny_pure ?_)
  refine wpAny_bind (collect_sq hl ?_ hL)
  refine wpAny_bind (wpAny_newList ?_ hL)
  have hsz : ((s.heap.push (seqObj "list" #[] 0)).update s.heap.objs.size (Obj.mapSeq (· ++ vs.toArray))).objs.size = s.heap.objs.size + 1 := by
    rw [Heap.size_update, size_push']
  show wpAny _ _ _ _ _ { s with heap := copyHeap s.heap vs }
  rw [hsz]
  refine wpAny_bind (wpAny_holding (wpAny_call_entry_kw slot_list_sort ⟨_, copyHeap_at s.heap vs, rfl⟩ entry_list_sort ?body (args_list_sort _)))
  case body =>
    show wpAny (model prog w) A.in1.in1 (Builtin.«list.sort» ⟨[.ref (s.heap.objs.size + 1)], []⟩) _ _ _
    refine wpAny_mono (list_sort_vals (P := fun f s' => f = .done (.ret .none) ∧ Q (.ref (s.heap.objs.size + 1)) s') (s := { s with heap := copyHeap s.heap vs }) (copyHeap_at s.heap vs) S hL ⟨rfl, h⟩) (fun f s' hf => ?_) fun _ _ e => e
    obtain ⟨rfl, hq⟩ := hf
    exact ⟨_, rfl, wpAny_pure ⟨_, rfl, hq⟩⟩
open PySem.W in
theorem sorted_dataS {β : Type} {vs : List Value} {bs : List β} {enc : β → PyData} {R : Value → β → Prop} {l : Addr} {Q : Value → Shared → Prop} (hl : IsSq s.heap l vs) (e : EachIs R vs bs) (er : EachIs (fun v b => ∃ as, Reads s.heap v (enc b) as) vs bs) (hal : AllAlike (bs.map enc)) (hk : Sortable (bs.map enc)) (hL : bs.length ≤ sizeLine)
    (hu : ∀ b, b ∈ bs → A.units + 2 + (enc b).depth < cLine) (h : ∀ out, out.length = bs.length → EachIs R out (bs.mergeSort (dataLe false enc)) → Q (.ref (s.heap.objs.size + 1)) { s with heap := sortedAll s.heap vs (List.toArray out) }) :
    wpAny (model prog w) A (call (.builtin "sorted") [.ref l]) Q E s := by
  have er' : EachIs (fun v b => ∃ as, Reads (sortingHeap (copyHeap s.heap vs) (s.heap.objs.size + 1) vs) v (enc b) as) vs bs := er.mono fun _ _ ⟨as, r⟩ => ⟨as, PyProof.Rows.Reads.keeps (fun _ _ => sorting_copy_old) r⟩
  exact sorted_sq hl (SortsAt.data (s := { s with heap := sortingHeap (copyHeap s.heap vs) (s.heap.objs.size + 1) vs }) (each_map (R := fun v d => ∃ as, Reads (sortingHeap (copyHeap s.heap vs) (s.heap.objs.size + 1) vs) v d as) enc er') hal hk (bound_map hu)) (by rw [e.length]; exact hL)
    (h _ (by rw [sortVals_length false rfl]; exact e.length) (sortVals_data false e er' hal))
end

/-! ### triples: the pure value, the value, the data -/
abbrev T3 := PV × V × PyData
def zip3 : List PV → List V → List PyData → List T3
  | v :: vs, x :: xs, d :: ds => (v, x, d) :: zip3 vs xs ds
  | _, _, _ => []
section
variable {C : RC} {M π : List Addr} {H : Hp}
theorem zip3_facts {K : PySem.W.Frag} : ∀ {l : List PV} {xs : List V} {ds : List PyData}, RVs C M π H l xs → DpAll K H xs ds → (∀ t ∈ zip3 l xs ds, RV C M π H t.1 t.2.1) ∧ (zip3 l xs ds).map (·.2.2) = ds ∧ (zip3 l xs ds).map (·.2.1) = xs ∧ (zip3 l xs ds).map (fun t => (t.1, t.2.2)) = l.zip ds ∧ (zip3 l xs ds).length = l.length ∧ (∀ t ∈ zip3 l xs ds, Dp K H t.2.1 t.2.2)
  | [], xs, ds, r, h => by
    unfold RVs at r
    subst r
    cases h
    exact ⟨fun t ht => by simp [zip3] at ht, rfl, rfl, rfl, rfl, fun t ht => by simp [zip3] at ht⟩
  | v :: l, xs, ds, r, h => by
    unfold RVs at r
    obtain ⟨x, xs', rfl, r1, r2⟩ := r
    cases h with
    | cons h1 h2 =>
      obtain ⟨a, b, c, d, e, f⟩ := zip3_facts r2 h2
      refine ⟨fun t ht => ?_, by simp [zip3, b], by simp [zip3, c], by simp [zip3, d], by simp [zip3, e], fun t ht => ?_⟩
      · unfold zip3 at ht
        rcases List.mem_cons.mp ht with rfl | ht
        · exact r1
        · exact a t ht
      · unfold zip3 at ht
        rcases List.mem_cons.mp ht with rfl | ht
        · exact h1
        · exact f t ht
theorem rvs_of : ∀ {ts : List T3}, (∀ t ∈ ts, RV C M π H t.1 t.2.1) → RVs C M π H (ts.map (·.1)) (ts.map (·.2.1))
  | [], _ => RVs.nil
  | t :: ts, h => .cons (h t List.mem_cons_self) (rvs_of fun u hu => h u (List.mem_cons_of_mem _ hu))
theorem each3 : ∀ {ts : List T3} {us : List Value}, PySem.W.EachIs (fun v t => RelV t.2.1 v) us ts → Vals (ts.map (·.2.1)) us
  | _, _, .nil => .nil
  | _, _, .cons h t => .cons h (each3 t)
theorem each3' {f : T3 → V} : ∀ {ts : List T3} {us : List Value}, Vals (ts.map f) us → PySem.W.EachIs (fun v t => RelV (f t) v) us ts
  | [], _, h => by cases h; exact .nil
  | t :: ts, us, h => by
    cases h with
    | cons h1 h2 => exact .cons h1 (each3' h2)
end
section
variable {X : Cx} {C : RC} {W : WX} {k : Bool}
theorem each_and {α β : Type} {R S : α → β → Prop} : ∀ {as : List α} {bs : List β}, PySem.W.EachIs R as bs → (∀ a, ∀ b ∈ bs, R a b → S a b) → PySem.W.EachIs S as bs
  | _, _, .nil, _ => .nil
  | _, _, .cons h t, f => .cons (f _ _ List.mem_cons_self h) (each_and t fun a b hb => f a b (List.mem_cons_of_mem _ hb))
theorem sortOk_all {ds : List PyData} (h : sortOk ds = true) : PySem.W.AllAlike ds ∧ PySem.W.Sortable ds ∧ ∀ d ∈ ds, d.depth ≤ 64 := by
  unfold sortOk at h
  simp only [Bool.and_eq_true, Bool.or_eq_true, List.all_eq_true, decide_eq_true_eq] at h
  obtain ⟨⟨h1, h2⟩, h3⟩ := h
  refine ⟨fun d hd e he => h1 d hd e he, ?_, h2⟩
  rcases h3 with h3 | h3
  · refine .inl fun d hd => ?_
    have q := h3 d hd
    split at q
    · exact ⟨_, _, rfl⟩
    · cases q
  · refine .inr fun d hd => ?_
    have q := h3 d hd
    refine ⟨fun e => ?_, fun xs e => ?_⟩
    · subst e; cases q
    · subst e; cases q
theorem mapZip {l : List PV} {ds : List PyData} {ts : List T3} (h : ts.map (fun t => (t.1, t.2.2)) = l.zip ds) :
    (ts.mergeSort (PySem.W.dataLe false (·.2.2))).map (·.1) = ((l.zip ds).mergeSort (PySem.W.dataLe false (·.2))).map (·.1) := by
  rw [← h]
  rw [← List.map_mergeSort (f := fun t : T3 => (t.1, t.2.2)) (r := PySem.W.dataLe false (·.2.2)) (s := PySem.W.dataLe false (·.2)) (fun a _ b _ => rfl), List.map_map]
  rfl
theorem cr_sorted1 {rl : Rl PV V} (nw : NewOk C W rl) (hK : C.K = X.K) (hu : X.A.units + 70 < cLine) : CallR X (.builtin "sorted") (rN C W rl (bltM .sorted)) := by
  intro pins s σ H xs us Q I r h
  obtain ⟨en, σ', μ, π, M, ow, l, R, rl, h⟩ := h
  unfold bltM at h
  dsimp only at h
  split at h
  · rename_i v
    split at h
    · rename_i lo e
      obtain ⟨l, e1, e2⟩ := Option.bind_eq_some_iff.mp e
      unfold newL at h
      split at h
      · rename_i hz
        obtain ⟨x, rfl, rx⟩ := rws1 rl
        obtain ⟨a, xs, rfl, h3, h4⟩ := seq_rw R e1 rx
        rw [sortedM_def] at e2
        obtain ⟨ds, e3, e4⟩ := Option.bind_eq_some_iff.mp e2
        split at e4
        · rename_i ok
          obtain ⟨ok1, ok2, ok3⟩ := sortOk_all ok
          cases e4
          have dp := dpMs R e3 h3
          obtain ⟨z1, z2, z3, z4, z5, z6⟩ := zip3_facts h3 dp
          obtain ⟨u, rfl, ru⟩ := vals1 r
          cases ru
          have sq : ∃ its : List Value, Vals xs its ∧ IsSq s.heap a its ∧ xs.length ≤ sizeLine := by
            rcases h4 with h4 | ⟨_, h4⟩
            · obtain ⟨its, rv, p, hz⟩ := I.list (.inl (.inl h4))
              exact ⟨its, rv, .inl p.isList, hz⟩
            · obtain ⟨its, rv, p, hz⟩ := I.tuple (hK ▸ h4)
              exact ⟨its, rv, .inr p, hz⟩
          obtain ⟨its, rv, isq, hlen⟩ := sq
          have rv2 : Vals ((zip3 l xs ds).map (·.2.1)) its := by rw [z3]; exact rv
          have ea : PySem.W.EachIs (fun v (t : T3) => RelV t.2.1 v) its (zip3 l xs ds) := each3' rv2
          have er : PySem.W.EachIs (fun v (t : T3) => ∃ as, Reads s.heap v t.2.2 as) its (zip3 l xs ds) := each_and ea fun a b hb hr => Dp.reads I b.2.2 b.2.1 a (hK ▸ z6 b hb) hr
          refine sorted_dataS (enc := fun t : T3 => t.2.2) (R := fun v (t : T3) => RelV t.2.1 v) isq ea er (by rw [z2]; exact ok1) (by rw [z2]; exact ok2) (by rw [z5, h3.length]; exact hlen) (fun b hb => ?_) fun out ho hR => ?_
          · have q := ok3 b.2.2 (by rw [← z2]; exact List.mem_map_of_mem hb)
            omega
          · obtain ⟨ep, he'⟩ := PyProof.Rows.sortedAll_at s.heap its out.toArray
            have hro : Vals (((zip3 l xs ds).mergeSort (PySem.W.dataLe false (·.2.2))).map (·.2.1)) out := each3 hR
            have rvs : RVs C M π H (((zip3 l xs ds).mergeSort (PySem.W.dataLe false (·.2.2))).map (·.1)) (((zip3 l xs ds).mergeSort (PySem.W.dataLe false (·.2.2))).map (·.2.1)) := rvs_of fun t ht => z1 t ((List.mergeSort_perm _ _).mem_iff.mp ht)
            rw [mapZip z4] at rvs
            have hf : H (s.heap.objs.size + 1) = none := I.hok.fresh (Nat.le_succ _)
            refine ⟨.ref _, upd H (s.heap.objs.size + 1) (.lst (((zip3 l xs ds).mergeSort (PySem.W.dataLe false (·.2.2))).map (·.2.1))), I.laid (t' := s.toks) (fun _ _ => PyProof.Rows.sortedAll_old) (Nat.le_succ _) ⟨?_, out, ep, hro, he'⟩, rfl, nw.lst R hf rvs h⟩
            rw [List.length_map, List.length_mergeSort, z5, h3.length]
            exact hlen
        · cases e4
      · exact h.elim
    · exact h.elim
  · exact h.elim

theorem minI_two {i j : Int} : minI [i, j] = some (if j < i then j else i) := by
  show some (min i j) = _
  congr 1
  rw [Int.min_def]
  split <;> split <;> omega
theorem maxI_two {i j : Int} : maxI [i, j] = some (if j > i then j else i) := by
  show some (max i j) = _
  congr 1
  rw [Int.max_def]
  split <;> split <;> omega
theorem fold_max : ∀ (r : List Int) (a : Int), r.foldl max a ∈ a :: r ∧ ∀ y ∈ a :: r, y ≤ r.foldl max a
  | [], a => by simp
  | b :: r, a => by
    obtain ⟨h1, h2⟩ := fold_max r (max a b)
    have e : max a b = a ∨ max a b = b := by omega
    refine ⟨?_, fun y hy => ?_⟩
    · rw [List.foldl_cons]
      rcases List.mem_cons.mp h1 with q | q
      · rw [q]
        rcases e with e | e <;> rw [e] <;> simp
      · exact List.mem_cons_of_mem _ (List.mem_cons_of_mem _ q)
    · rw [List.foldl_cons]
      have h3 := h2 (max a b) List.mem_cons_self
      rcases List.mem_cons.mp hy with q | q
      · subst q; omega
      · rcases List.mem_cons.mp q with q | q
        · subst q; omega
        · exact h2 y (List.mem_cons_of_mem _ q)
theorem fold_min : ∀ (r : List Int) (a : Int), r.foldl min a ∈ a :: r ∧ ∀ y ∈ a :: r, r.foldl min a ≤ y
  | [], a => by simp
  | b :: r, a => by
    obtain ⟨h1, h2⟩ := fold_min r (min a b)
    have e : min a b = a ∨ min a b = b := by omega
    refine ⟨?_, fun y hy => ?_⟩
    · rw [List.foldl_cons]
      rcases List.mem_cons.mp h1 with q | q
      · rw [q]
        rcases e with e | e <;> rw [e] <;> simp
      · exact List.mem_cons_of_mem _ (List.mem_cons_of_mem _ q)
    · rw [List.foldl_cons]
      have h3 := h2 (min a b) List.mem_cons_self
      rcases List.mem_cons.mp hy with q | q
      · subst q; omega
      · rcases List.mem_cons.mp q with q | q
        · subst q; omega
        · exact h2 y (List.mem_cons_of_mem _ q)
theorem reads_ints {h : Heap} : ∀ {is : List Int} {us : List Value}, Vals (is.map V.int) us → ReadsAll h us (is.map .int) []
  | [], _, r => by cases r; exact .nil
  | i :: is, _, r => by
    cases r with
    | cons r1 r2 =>
      obtain ⟨t, rfl⟩ := r1
      exact ReadsAll.cons (.int _ _) (reads_ints r2)
theorem alike_is (is : List Int) : PySem.W.AlikeAll (is.map PyData.int) := by
  refine ⟨fun x hx y hy => ?_, fun x hx => ?_⟩
  · obtain ⟨i, _, rfl⟩ := List.mem_map.mp hx
    obtain ⟨j, _, rfl⟩ := List.mem_map.mp hy
    simp [PySem.W.alike]
  · obtain ⟨i, _, rfl⟩ := List.mem_map.mp hx
    exact fun z => nomatch z
theorem cr_max1 (hK : C.K = X.K) (hc : X.calm = true) (hu : X.A.units + 70 < cLine) : CallR X (.builtin "max") (rN C W (RKr k) (bltM .max)) := by
  intro pins s σ H xs us Q I r h
  obtain ⟨en, σ', μ, π, M, ow, l, R, rl, h⟩ := h
  unfold bltM at h
  dsimp only at h
  obtain ⟨w, e, h2⟩ := opt_inv h
  obtain ⟨is, e1, e⟩ := Option.bind_eq_some_iff.mp e
  obtain ⟨m, e2, rfl⟩ := Option.map_eq_some_iff.mp e
  have hq : Q (.int m) H := h2.val R (by unfold RV; rfl)
  unfold manyI at e1
  split at e1
  · rename_i l
    obtain ⟨x, rfl, rx⟩ := rws1 rl
    obtain ⟨a, xs, rfl, h3, h4⟩ := rv_tup rx
    have e3 := ints_rv e1 h4
    subst e3
    cases is with
    | nil => cases e2
    | cons i is =>
      cases e2
      obtain ⟨u, rfl, ru⟩ := vals1 r
      cases ru
      obtain ⟨its, rv, p, hz⟩ := I.tuple (hK ▸ h3)
      have hd : PyData.depthAll ((i :: is).map PyData.int) = 0 := PySem.W.depth_ints _
      refine PySem.W.max_tuple_data (I.ok.hd hc) p (reads_ints rv) (alike_is (i :: is)) (by show _ + _ + PyData.depthAll ((i :: is).map PyData.int) < _; rw [hd]; omega) fun j v h' tk bs hv rd hk => ?_
      rw [PySem.W.maxD_ints] at rd
      cases rd
      exact ⟨.int _, H, I.kept hk, ⟨_, rfl⟩, hq⟩
  · obtain ⟨l, e3, e4⟩ := Option.bind_eq_some_iff.mp e1
    obtain ⟨x, rfl, rx⟩ := rws1 rl
    obtain ⟨a, xs, rfl, h3, h4⟩ := lst_rw R e3 rx
    have e5 := ints_rv e4 h4
    subst e5
    cases is with
    | nil => cases e2
    | cons i is =>
      cases e2
      refine cr_max hc pins s σ H _ us Q I r ⟨a, i :: is, rfl, .inl (.inl h3), by simp, fun m hm hy => ?_⟩
      have f := fold_max is i
      have e : m = is.foldl max i := Int.le_antisymm (f.2 m hm) (hy _ f.1)
      rw [e]
      exact hq
  · rename_i i j
    cases e1
    obtain ⟨x, y, rfl, rx, ry⟩ := rws2 rl
    have e := rv_int rx
    subst e
    have e := rv_int ry
    subst e
    rw [maxI_two] at e2
    cases e2
    exact call_max2 hc pins s σ H _ us Q I r ⟨i, j, rfl, hq⟩
  · rename_i i j m
    cases e1
    obtain ⟨x, xs, rfl, rx, rl⟩ := rl
    obtain ⟨y, z, rfl, ry, rz⟩ := rws2 rl
    have e := rv_int rx
    subst e
    have e := rv_int ry
    subst e
    have e := rv_int rz
    subst e
    refine call_max3Nu hc pins s σ H _ us Q I r ⟨.int i, .int j, .int m, _, rfl, ?_, hq⟩
    cases e2
    show ((Option.map _ (some (decide (i < j)))).bind fun q => (Option.map _ (nuLt q (.int m)))) = _
    simp only [Option.map_some, Option.bind_some, List.foldl_cons, List.foldl_nil]
    by_cases h1 : i < j
    · simp only [h1, decide_true, if_true]
      show some (if decide (j < m) = true then V.int m else V.int j) = _
      by_cases h2 : j < m
      · rw [if_pos (by simpa using h2)]; congr 2; omega
      · rw [if_neg (by simpa using h2)]; congr 2; omega
    · simp only [h1, decide_false, Bool.false_eq_true, if_false]
      show some (if decide (i < m) = true then V.int m else V.int i) = _
      by_cases h2 : i < m
      · rw [if_pos (by simpa using h2)]; congr 2; omega
      · rw [if_neg (by simpa using h2)]; congr 2; omega
  · cases e1
theorem cr_min1 (hK : C.K = X.K) (hc : X.calm = true) (hu : X.A.units + 70 < cLine) : CallR X (.builtin "min") (rN C W (RKr k) (bltM .min)) := by
  intro pins s σ H xs us Q I r h
  obtain ⟨en, σ', μ, π, M, ow, l, R, rl, h⟩ := h
  unfold bltM at h
  dsimp only at h
  obtain ⟨w, e, h2⟩ := opt_inv h
  obtain ⟨is, e1, e⟩ := Option.bind_eq_some_iff.mp e
  obtain ⟨m, e2, rfl⟩ := Option.map_eq_some_iff.mp e
  have hq : Q (.int m) H := h2.val R (by unfold RV; rfl)
  unfold manyI at e1
  split at e1
  · rename_i l
    obtain ⟨x, rfl, rx⟩ := rws1 rl
    obtain ⟨a, xs, rfl, h3, h4⟩ := rv_tup rx
    have e3 := ints_rv e1 h4
    subst e3
    cases is with
    | nil => cases e2
    | cons i is =>
      cases e2
      obtain ⟨u, rfl, ru⟩ := vals1 r
      cases ru
      obtain ⟨its, rv, p, hz⟩ := I.tuple (hK ▸ h3)
      have hd : PyData.depthAll ((i :: is).map PyData.int) = 0 := PySem.W.depth_ints _
      refine PySem.W.min_tuple_data (I.ok.hd hc) p (reads_ints rv) (alike_is (i :: is)) (by show _ + _ + PyData.depthAll ((i :: is).map PyData.int) < _; rw [hd]; omega) fun j v h' tk bs hv rd hk => ?_
      rw [PySem.W.minD_ints] at rd
      cases rd
      exact ⟨.int _, H, I.kept hk, ⟨_, rfl⟩, hq⟩
  · obtain ⟨l, e3, e4⟩ := Option.bind_eq_some_iff.mp e1
    obtain ⟨x, rfl, rx⟩ := rws1 rl
    obtain ⟨a, xs, rfl, h3, h4⟩ := lst_rw R e3 rx
    have e5 := ints_rv e4 h4
    subst e5
    cases is with
    | nil => cases e2
    | cons i is =>
      cases e2
      refine cr_min hc pins s σ H _ us Q I r ⟨a, i :: is, rfl, .inl (.inl h3), by simp, fun m hm hy => ?_⟩
      have f := fold_min is i
      have e : m = is.foldl min i := Int.le_antisymm (hy _ f.1) (f.2 m hm)
      rw [e]
      exact hq
  · rename_i i j
    cases e1
    obtain ⟨x, y, rfl, rx, ry⟩ := rws2 rl
    have e := rv_int rx
    subst e
    have e := rv_int ry
    subst e
    rw [minI_two] at e2
    cases e2
    exact call_min2 hc pins s σ H _ us Q I r ⟨i, j, rfl, hq⟩
  · rename_i i j m
    cases e1
    obtain ⟨x, xs, rfl, rx, rl⟩ := rl
    obtain ⟨y, z, rfl, ry, rz⟩ := rws2 rl
    have e := rv_int rx
    subst e
    have e := rv_int ry
    subst e
    have e := rv_int rz
    subst e
    refine call_min3Nu hc pins s σ H _ us Q I r ⟨.int i, .int j, .int m, _, rfl, ?_, hq⟩
    cases e2
    show ((Option.map _ (some (decide (j < i)))).bind fun q => (Option.map _ (nuLt (.int m) q))) = _
    simp only [Option.map_some, Option.bind_some, List.foldl_cons, List.foldl_nil]
    by_cases h1 : j < i
    · simp only [h1, decide_true, if_true]
      show some (if decide (m < j) = true then V.int m else V.int j) = _
      by_cases h2 : m < j
      · rw [if_pos (by simpa using h2)]; congr 2; omega
      · rw [if_neg (by simpa using h2)]; congr 2; omega
    · simp only [h1, decide_false, Bool.false_eq_true, if_false]
      show some (if decide (m < i) = true then V.int m else V.int i) = _
      by_cases h2 : m < i
      · rw [if_pos (by simpa using h2)]; congr 2; omega
      · rw [if_neg (by simpa using h2)]; congr 2; omega
  · cases e1
end
section
variable {prog : Program} {w : World} {h₀ : Heap}
theorem call_repr_data : ∀ {v : Value} {d : PyData} {as : List Addr}, Reads h₀ v d as → d.showable = true → d.hasDict = false → d.shown.length ≤ sizeLine →
    ∀ (A : Around) (E : Value → Shared → Prop) (s : Shared) (Q : Value → Shared → Prop), A.guards = some [] → A.units + 2 + d.depth < cLine → (∀ b o, h₀.get? b = some o → s.heap.get? b = some o) →
    (∀ h' u tk, (∀ b o, s.heap.get? b = some o → h'.get? b = some o) → Q (.str d.shown u) { s with heap := h', toks := tk }) → wpAny (model prog w) A (call (.builtin "repr") [v]) Q E s
  | _, _, _, .none, _, _, _, A, E, s, Q, _, _, _, hQ => by
    simp only [PyData.shown] at hQ
    exact PySem.P.repr_of_none (hQ s.heap _ _ fun _ _ e => e)
  | _, _, _, .bool b, _, _, _, A, E, s, Q, _, _, _, hQ => by
    simp only [PyData.shown] at hQ
    exact PySem.P.repr_of_bool (hQ s.heap _ _ fun _ _ e => e)
  | _, _, _, .int i t, hs, _, _, A, E, s, Q, _, _, _, hQ => by
    simp only [PyData.shown] at hQ
    exact PySem.P.repr_of_int (by simpa [PyData.showable] using hs) (hQ s.heap _ _ fun _ _ e => e)
  | _, _, _, .str x t, _, _, hz, A, E, s, Q, _, _, _, hQ => by
    simp only [PyData.shown] at hQ
    exact PySem.P.repr_of_str (hQ s.heap _ _ fun _ _ e => e) (by simpa only [PyData.shown] using hz)
  | _, _, _, .list (a := a) (vs := vs) (xs := xs) h1 h2 h3 h4, hs, hd, hz, A, E, s, Q, hg, hu, hk0, hQ => by
    have hz' : (listText (PyData.shownAll xs)).length ≤ sizeLine := by simpa only [PyData.shown] using hz
    obtain ⟨bs, hb, hk⟩ := ReprAllK.of_readsAll (prog := prog) (w := w) h4 (by simpa [PyData.showable] using hs) (fun hx => absurd hx (by simpa [PyData.hasDict] using hd)) (fun t ht => Nat.le_trans (listText_mem_le ht) hz')
    have r : Reads h₀ (.ref a) (.list xs) _ := .list h1 h2 h3 h4
    have hna : a ∉ bs := not_mem_of_deeper r (by simp only [PyData.depth]; omega) hb
    simp only [PyData.depth] at hu
    simp only [PyData.shown] at hQ
    obtain ⟨l⟩ := vs
    cases l with
    | nil =>
      have h4' : ReadsAll h₀ [] xs _ := h4
      cases h4'
      simp only [PyData.shownAll, listText_nil] at hQ
      exact call_repr_slot (by omega) ⟨_, hk0 _ _ h1, h2⟩ PySem.F.slot_list_repr.toG (call_list_repr_empty ⟨_, hk0 _ _ h1, h2⟩ (hk0 _ _ h1) h3 ⟨_, _, rfl, hQ s.heap _ _ fun _ _ e => e⟩)
    | cons x l =>
      exact call_repr_slot (by omega) ⟨_, hk0 _ _ h1, h2⟩ PySem.F.slot_list_repr.toG (call_list_reprK (A := A.in1) h1 h2 h3 hna (by simpa using hk.length_eq) (fun i y e => hk.item i y (by simpa using e)) hg (fun b _ => Clear.nil b) (by show A.units + 1 + _ < _; omega) hk0 (fun h' u tk hk' => ⟨_, _, rfl, hQ h' u tk hk'⟩) hz')
  | _, _, _, .tuple (a := a) (xs := xs) h1 h2 h3 h4, hs, hd, hz, A, E, s, Q, hg, hu, hk0, hQ => by
    have hz' : (tupleText (PyData.shownAll xs)).length ≤ sizeLine := by simpa only [PyData.shown] using hz
    obtain ⟨bs, hb, hk⟩ := ReprAllK.of_readsAll (prog := prog) (w := w) h4 (by simpa [PyData.showable] using hs) (fun hx => absurd hx (by simpa [PyData.hasDict] using hd)) (fun t ht => Nat.le_trans (tupleText_mem_le ht) hz')
    have r : Reads h₀ (.ref a) (.tuple xs) _ := .tuple h1 h2 h3 h4
    have hna : a ∉ bs := not_mem_of_deeper r (by simp only [PyData.depth]; omega) hb
    simp only [PyData.depth] at hu
    simp only [PyData.shown] at hQ
    exact call_repr_slot (by omega) ⟨_, hk0 _ _ h1, h2⟩ PySem.F.slot_tuple_repr (call_tuple_reprK (A := A.in1) h1 h2 h3 hna hk hg (fun b _ => Clear.nil b) (by show A.units + 1 + _ < _; omega) hk0 (fun h' u tk hk' => ⟨_, _, rfl, hQ h' u tk hk'⟩) hz')
  | _, _, _, .dict _ _ _ _ _, _, hd, _, _, _, _, _, _, _, _, _ => by simp [PyData.hasDict] at hd
end
section
variable {X : Cx} {C : RC} {W : WX} {k : Bool}
mutual
theorem noDict {f : Nat → Option PyData} (hf : ∀ i d, f i = some d → d.hasDict = false) : ∀ {v : PV} {d : PyData}, datS f v = some d → d.hasDict = false
  | .non, d, e => by unfold datS at e; cases e; rfl
  | .bl b, d, e => by unfold datS at e; cases e; rfl
  | .int i, d, e => by unfold datS at e; cases e; rfl
  | .str z, d, e => by unfold datS at e; cases e; rfl
  | .tup l, d, e => by
    unfold datS at e
    obtain ⟨ds, h, rfl⟩ := Option.map_eq_some_iff.mp e
    exact noDicts hf h
  | .lv l, d, e => by
    unfold datS at e
    obtain ⟨ds, h, rfl⟩ := Option.map_eq_some_iff.mp e
    exact noDicts hf h
  | .ref i, d, e => by unfold datS at e; exact hf i d e
  | .dv _ _, _, e => by unfold datS at e; cases e
  | .fn _, _, e => by unfold datS at e; cases e
  | .exc _ _, _, e => by unfold datS at e; cases e
  | .clo _ _, _, e => by unfold datS at e; cases e
  | .sc _, _, e => by unfold datS at e; cases e
  | .rg _ _ _, _, e => by unfold datS at e; cases e
  | .enu _ _, _, e => by unfold datS at e; cases e
  | .own _, _, e => by unfold datS at e; cases e
theorem noDicts {f : Nat → Option PyData} (hf : ∀ i d, f i = some d → d.hasDict = false) : ∀ {l : List PV} {ds : List PyData}, datsS f l = some ds → PyData.hasDictAll ds = false
  | [], ds, e => by unfold datsS at e; cases e; rfl
  | v :: l, ds, e => by
    unfold datsS at e
    split at e
    · rename_i d ds h1 h2
      cases e
      unfold PyData.hasDictAll
      rw [noDict hf h1, noDicts hf h2]
      rfl
    · cases e
end
theorem noDictRef {μ : Sto} : ∀ (n i : Nat) (d : PyData), refD n μ i = some d → d.hasDict = false
  | 0, i, d, e => by unfold refD at e; cases e
  | n + 1, i, d, e => by
    unfold refD at e
    split at e
    · obtain ⟨ds, h, rfl⟩ := Option.map_eq_some_iff.mp e
      exact noDicts (noDictRef n) h
    · cases e
theorem noDictM {μ : Sto} {v : PV} {d : PyData} (e : datM μ v = some d) : d.hasDict = false := noDict (noDictRef 6) e
/-- repr(v) -/
theorem cr_repr1 (hK : C.K = X.K) (hu : X.A.units + 200 < cLine) (hg : X.A.guards = some []) : CallR X (.builtin "repr") (rN C W (RKr k) (bltM .repr)) := by
  intro pins s σ H xs us Q I r h
  obtain ⟨en, σ', μ, π, M, ow, l, R, rl, h⟩ := h
  unfold bltM at h
  dsimp only at h
  split at h
  · rename_i v
    obtain ⟨w, e, h2⟩ := opt_inv h
    obtain ⟨d, e1, e⟩ := Option.bind_eq_some_iff.mp e
    split at e
    · rename_i c
      cases e
      obtain ⟨x, rfl, rx⟩ := rws1 rl
      obtain ⟨u, rfl, ru⟩ := vals1 r
      obtain ⟨as, rd⟩ := Dp.reads I d x u (hK ▸ dpM R e1 rx) ru
      have hq : Q (.str d.shown) H := h2.val R (by unfold RV; rfl)
      refine call_repr_data rd c.1 (noDictM e1) (by have := c.2.1; rw [szl] at this; exact this) X.A X.xe s _ hg (by omega) (fun _ _ e => e) fun h' u tk hk => ?_
      exact ⟨.str d.shown, H, I.kept hk, ⟨_, rfl⟩, hq⟩
    · cases e
  · exact h.elim
end
end OL
end
section
set_option Elab.async false
set_option linter.all false
set_option maxRecDepth 100000
set_option maxHeartbeats 4000000
/-! OL, part ia: own errors are made: C(v), C's __init__ being super().__init__('..'), then self.f = f. -/
namespace OL
open PySem PySem.Spec PySem.W PySem.Calls PyProof.Rows PySem.HandSPX
/-- what the written part says of the class at C, of its __init__ at fI -/
structure ExT (K : Frag) (prog : Program) (C fI : Addr) (fs : List Str) : Prop where
  cls : ∃ nm q N bs bm sn sub ab col dd k0 k1 k2 k3 k5, K.lookup C = some (excClassObj nm q C N bs bm true sn sub ab col dd k0 k1 k2 k3 k5 "ValueError.__new__") ∧ refsVE bm = true
  nsl : ("self" : Str) ∉ fs ∧ ("super" : Str) ∉ fs ∧ ("__class__" : Str) ∉ fs ∧ ("__debug__" : Str) ∉ fs ∧ fs.Nodup
  sa : findIn K (.ref C) "__setattr__" = some (some (.builtin "object.__setattr__"))
  noN : ∀ f ∈ fs, findIn K (.ref C) f = some none
  iC : findIn K (.ref C) "__init__" = some (some (.ref fI))
  tC : typeIn K (.ref fI) = some (.type "function")
  kC : keepIn K (.ref C) = true
  exC : subIn K (.ref C) (.type "BaseException") = some true
  veC : subIn K (.ref C) (.type "ValueError") = some true
  slC : mroIn K C (.ref C) = some true
  tyC : typeIn K (.ref C) = some (.type "type")
  opq : nsIn K cStatics "thirdparty.any" = some none
  sup : ks_superIn K C C "__init__" = some (some (.builtin "ValueError.__init__"))
  free : nsIn K mainGlobals "super" = some none
  top : (prog.main.scope.names.lookup ("super" : Str)).isSome = false
  fn : ∃ (oc : Value) (od : Option Addr) (qual t : Str) (p : IPos) (doc pm : Value) (an : Option Addr) (cda cc : Addr) (ct : Value) (osl : Array (Option Value)) (file : Str) (tf : Tok) (ccl cl : Value) (cdd cld : Option Addr) (vs : Array Value) (ccs csl : Array (Option Value)),
    K.lookup fI = some ⟨oc, od, .func (ksFn "__init__" qual (iArgs fs p) (iBody fs t p) (iScope fs) .none .none doc pm an (.ref cda) ct cc), osl⟩ ∧ (p.q2.endLine == p.q4.line) = true ∧ codeIn K (.ref cda) qual = true ∧ K.lookup cda = some ⟨ccl, cdd, .fields vs, ccs⟩ ∧ vs[2]? = some (.str file tf) ∧
    ((prog.main.file : Str) == file) = true ∧ K.lookup cc = some ⟨cl, cld, .cell (some (.ref C)), csl⟩
section
variable {prog : Program} {w : World} {A : Around} {E : Value → Shared → Prop} {s : Shared} {K : Frag} {mg mb : Str → Option Value} {C fI : Addr} {fs : List Str}
theorem wpAt_mcall {M : Model} {c : Code} {env : PySem.Env} {o : Expr} {name : Str} {apos pos : Pos} {args : List Expr} {Q : Value → Shared → Prop}
    (h : _root_.PySem.wpAt M A c (attributeBase o name env (eval o env)) (fun ov s₁ => wpAny M A (getMethod ov name (L2.plainOf o env)) (fun fx s₂ => wpAny M A (callWith pos fx.1 fx.2 (backTo pos (starEach args env)) []) Q E s₂) E s₁) E s)
    (hf : methodCallForm args.length (backTo pos (starEach args env)) [] = true) (hl : (apos.endLine == pos.line) = true)
    (he : eval (.Call (.Attribute o name apos) args [] pos) env = (do
      let ov ← attributeBase o name env (eval o env)
      standAt apos.atName
      methodCall o name apos pos env ov args.length (backTo pos (starEach args env)) []) := by rfl) :
    _root_.PySem.wpAt M A c (eval (.Call (.Attribute o name apos) args [] pos) env) Q E s := by
  rw [he]
  refine _root_.PySem.wpAt_bind (ks_wpAt_mono h (fun ov s₁ h₁ => wpAt_of_wpAny (wpAny_bind (wpAny_standAt ?_))) fun _ _ x => x)
  rw [L2.mcall_line hf hl]
  exact wpAny_bind (wpAny_holding (wpAny_mono h₁ (fun fx s₂ h₂ => h₂) fun _ _ x => x))
theorem excO_rec (C t : Addr) : excO C t = excRec (.ref C) t none .none .none (.bool false) := rfl
/-- super().__init__('..') as the first statement -/
theorem sup_stmt (T : ExT K prog C fI fs) {body : List Stmt} {qual t : Str} {p : IPos} {L cda cc x t0 : Addr} {m : Str → Option Value} {Q : PySem.Flow → Shared → Prop}
    {oc : Value} {od : Option Addr} {doc pm : Value} {an : Option Addr} {ct : Value} {osl : Array (Option Value)} {file : Str} {tf : Tok} {ccl cl : Value} {cdd cld : Option Addr} {vs : Array Value} {ccs csl : Array (Option Value)} {ar : Arg} {prm : Arguments} {b0 : List Stmt}
    (hfI : K.lookup fI = some ⟨oc, od, .func (ksFn "__init__" qual prm b0 (iScope fs) .none .none doc pm an (.ref cda) ct cc), osl⟩) (hpr : (prm.posonlyargs ++ prm.args).head? = some ar) (har : ar.arg = "self")
    (hcda : K.lookup cda = some ⟨ccl, cdd, .fields vs, ccs⟩) (hvs : vs[2]? = some (.str file tf)) (hfile : ((prog.main.file : Str) == file) = true) (hcc : K.lookup cc = some ⟨cl, cld, .cell (some (.ref C)), csl⟩)
    (X : K.In s.heap) (G : s.heap.Ns mainGlobals mg) (gS : mg "super" = none) (B : s.heap.Ns builtinsNs mb) (bS : mb "super" = some (.type "super")) (hn : s.heap.Ns L m) (hself : m "self" = some (.ref x))
    (hli : (p.q2.endLine == p.q4.line) = true) (hks : (iScope fs).names.lookup ("super" : Str) = some .globalImplicit) (hkc : (iScope fs).names.lookup ("__class__" : Str) = some .free) (hka : (iScope fs).names.lookup ("self" : Str) = some .local)
    (hx : s.heap.get? x = some (excO C t0)) (hxL : x ≠ L)
    (hq : ∀ h' tk t1, (∀ b o, b ≠ x → s.heap.get? b = some o → h'.get? b = some o) → h'.get? x = some (excO C t1) → Q .next { s with heap := h', toks := tk }) :
    _root_.PySem.wpAt (model prog w) A (.func body (ksEnv qual (iScope fs) L fI (.ref cda) cc)) (exec (iSup t p) (ksEnv qual (iScope fs) L fI (.ref cda) cc)) Q E s := by
  obtain ⟨nm, q, N, bs, bm, sn, sub, ab, col, dd, k0, k1, k2, k3, k5, hC, hbm⟩ := T.cls
  have hcl : clsIn K C = some { name := nm, bases := bs, mro := .ref C :: bm, ns := N, qualname := q, hasDict := true, slotNames := sn, subclasses := sub, abstract := ab, collection := col, hasDel := false } := by unfold clsIn; rw [hC] <;> rfl
  have hk : (iScope fs).kind = .function := rfl
  obtain ⟨hh, g, d, tk, os⟩ := s
  unfold iSup
  refine ks_wpAt_Expr_any ?_
  refine wpAt_mcall ?_ rfl hli
  refine ks_wpAt_super_base (env := ksEnv qual (iScope fs) L fI (.ref cda) cc) hks hkc rfl rfl (X _ _ hfI) rfl hpr rfl (X _ _ hcda) rfl hvs hfile T.top ?_
  refine ks_loadName_global hk hks (loadGlobal_builtin (env := ksEnv qual (iScope fs) L fI (.ref cda) cc) G gS B bS ⟨rfl, ?_⟩)
  refine wpAny_loadName_free hk hkc rfl ⟨_, X _ _ hcc, rfl⟩ ?_
  refine wpAny_loadName_local hk (by rw [har]; exact hka) hn (by rw [har]; exact hself) ?_
  refine ks_wpAny_isType_cls (X _ _ hC) rfl ⟨rfl, ?_⟩
  refine ks_wpAny_call_super (X _ _ hC) rfl hx rfl (fun c e => nomatch e) (looks_mroIn X T.slC) (fun h1 e1 u1 => ?_)
  have X1 : K.In h1 := X.keeps u1
  have hx1 := u1 _ _ hx
  have I1 : InstAt h1 x (excO C t0) C none := ⟨hx1, rfl, rfl, trivial⟩
  have hxC : x ≠ C := fun z => by
    rw [z] at hx
    rw [X _ _ hC] at hx
    cases hx
  refine kxs_getMethod kxs_ValueError e1 (looks_opaque X1 T.opq) (l₀ := .ref C :: bm) ?_ rfl X1 (by have z := T.sup; unfold ks_superIn at z; rw [hcl] at z; exact z) (I1.type.andThen (looks_subIn X1 T.veC)) hxC rfl ?_
  · exact fun A Q E s k q => wpAny_bind ((looks_clsIn X1 hcl) A _ E s k (wpAny_pure q))
  have hu2 : (h1.push (kxs_mw "ValueError.__init__" x)).get? h1.objs.size = some (kxs_mw "ValueError.__init__" x) := Heap.get?_push_at rfl rfl
  have up2 : ∀ y o, hh.get? y = some o → (h1.push (kxs_mw "ValueError.__init__" x)).get? y = some o := fun y o e => Heap.get?_push_of_some _ (u1 y o e)
  refine kxs_callWith (i := "ValueError.__init__") (x := x) rfl (evalArgs_plain ?_)
  generalize (h1.push (kxs_mw "ValueError.__init__" x)) = h2 at hu2 up2
  have hk2 : ∀ tk2 (v : Value), wpAny (model prog w) A (call (.ref h1.objs.size) [v]) (fun _ s' => Q .next s') E ⟨h2, g, d, tk2, os⟩ := fun tk2 v => by
    refine wpAny_call (codeAny_of_tree ?_)
    show wpAny _ A.in1 (callAny (.ref h1.objs.size) ⟨[v], []⟩) _ _ _
    simp only [callAny]
    refine wpAny_bind (wpAny_load hu2 ?_)
    simp only [kxs_mw, show (Value.type "method-wrapper" == Value.type "method" || Value.type "method-wrapper" == Value.type "builtin_function_or_method" || Value.type "method-wrapper" == Value.type "method-wrapper") = true by decide, if_true]
    refine KFB.if_so (by decide) ?_
    refine wpAny_bind (check_bound_init F.excBase_ValueError.toExcCallFacts (up2 _ _ (X _ _ hC)) (up2 _ _ hx) rfl ?_)
    refine wpAny_bind (wpAny_pure (wpAny_pure ?_))
    refine ⟨plainId_quiet F.excBase_ValueError.init.plain _, codeAny_builtin F.excBase_ValueError.initEntry ?_⟩
    refine exc_init_tree (cls := .ref C) (t0 := t0) (dv := none) (c2 := .none) (c3 := .none) (b4 := .bool false) (up2 _ _ hx) (by rw [sizeLine_eq]; exact (by decide : 1 ≤ 16777216)) (fun h3 k3 e3 _ => ?_)
    exact hq h3 tk2 _ (fun b o hb ho => k3 b o hb (up2 b o ho)) e3
  wp_walk
  exact ⟨hu2, hk2 _ _⟩
theorem ne_of {a b : Str} {l : List Str} (h : a ∉ l) (m : b ∈ l) : b ≠ a := fun e => h (e ▸ m)
theorem beq_ne {a b : Str} (h : a ≠ b) : (a == b) = false := by simpa using h
/-- self.f = f, the first one -/
theorem set_first (T : ExT K prog C fI fs) {f : Str} {a b c dd : Pos} {qual : Str} {L cda cc x t1 : Addr} {v : Value} {m : Str → Option Value} {Q : PySem.Flow → Shared → Prop} (hf : f ∈ fs)
    (X : K.In s.heap) (hn : s.heap.Ns L m) (hself : m "self" = some (.ref x)) (hfv : m f = some v) (hka : (iScope fs).names.lookup ("self" : Str) = some .local) (hkf : (iScope fs).names.lookup f = some .local)
    (hx : s.heap.get? x = some (excO C t1))
    (hq : ∀ h' tk dx, (∀ b o, b ≠ x → s.heap.get? b = some o → h'.get? b = some o) → s.heap.objs.size ≤ dx → dx ≠ x → h'.get? x = some { cls := .ref C, dict := some dx, data := .fields #[.ref t1, .none, .none, .none, .bool false, .none] } →
      h'.Ns1 dx (fun y => if y = f then some v else none) → Q .next { s with heap := h', toks := tk }) :
    wpAny (model prog w) A (exec (iSet f a b c dd) (ksEnv qual (iScope fs) L fI (.ref cda) cc)) Q E s := by
  obtain ⟨nm, q, N, bs, bm, sn, sub, ab, col, dd0, k0, k1, k2, k3, k5, hC, hbm⟩ := T.cls
  have hcl : clsIn K C = some { name := nm, bases := bs, mro := .ref C :: bm, ns := N, qualname := q, hasDict := true, slotNames := sn, subclasses := sub, abstract := ab, collection := col, hasDel := false } := by unfold clsIn; rw [hC] <;> rfl
  have hk : (iScope fs).kind = .function := rfl
  obtain ⟨hh, g, d, tk, os⟩ := s
  unfold iSet
  refine plainObj_wpAny_Assign_Attribute ?_
  refine wpAny_Name (wpAny_loadName_local hk hkf hn hfv ?_) (beq_ne (ne_of T.nsl.2.2.2.1 hf))
  refine wpAny_Name (wpAny_loadName_local hk hka hn hself ?_) (by decide)
  refine set_plain X (ox := excO C t1) (od := none) ⟨hx, rfl, rfl, trivial⟩ T.sa ?_
  refine exc_osa X hx hcl (show refsVE (.ref C :: bm) = true from hbm) rfl (T.noN f hf) (fun h₃ tk₃ dx k₃ dn dne hx₃ hn₃ => ?_)
  exact hq h₃ tk₃ dx k₃ dn dne hx₃ hn₃
/-- self.f = f, a further one -/
theorem set_more (T : ExT K prog C fI fs) {f g : Str} {a b c dd : Pos} {qual : Str} {L cda cc x t1 dx : Addr} {u v : Value} {m : Str → Option Value} {Q : PySem.Flow → Shared → Prop} (hf : f ∈ fs)
    (X : K.In s.heap) (hn : s.heap.Ns L m) (hself : m "self" = some (.ref x)) (hfv : m f = some v) (hka : (iScope fs).names.lookup ("self" : Str) = some .local) (hkf : (iScope fs).names.lookup f = some .local)
    (hx : s.heap.get? x = some { cls := .ref C, dict := some dx, data := .fields #[.ref t1, .none, .none, .none, .bool false, .none] }) (hns : s.heap.Ns1 dx (fun y => if y = g then some u else none))
    (hq : ∀ h' tk, (∀ b o, b ≠ dx → s.heap.get? b = some o → h'.get? b = some o) → h'.Ns1 dx (fun y => if y = f then some v else if y = g then some u else none) → Q .next { s with heap := h', toks := tk }) :
    wpAny (model prog w) A (exec (iSet f a b c dd) (ksEnv qual (iScope fs) L fI (.ref cda) cc)) Q E s := by
  obtain ⟨nm, q, N, bs, bm, sn, sub, ab, col, dd0, k0, k1, k2, k3, k5, hC, hbm⟩ := T.cls
  have hcl : clsIn K C = some { name := nm, bases := bs, mro := .ref C :: bm, ns := N, qualname := q, hasDict := true, slotNames := sn, subclasses := sub, abstract := ab, collection := col, hasDel := false } := by unfold clsIn; rw [hC] <;> rfl
  have hk : (iScope fs).kind = .function := rfl
  have hwi : Within (fun y => if y = g then some u else none) [g] := fun y hy => by
    by_cases e : y = g
    · simp [e]
    · simp [e] at hy
  obtain ⟨hh, gs, d, tk, os⟩ := s
  obtain ⟨oD, esD, epD, hoD, hdD, _⟩ := hns.count hwi
  unfold iSet
  refine plainObj_wpAny_Assign_Attribute ?_
  refine wpAny_Name (wpAny_loadName_local hk hkf hn hfv ?_) (beq_ne (ne_of T.nsl.2.2.2.1 hf))
  refine wpAny_Name (wpAny_loadName_local hk hka hn hself ?_) (by decide)
  refine set_plain X (ox := _) (od := some oD) ⟨hx, rfl, rfl, hoD⟩ T.sa ?_
  refine OEX.osa_old X hx hns hwi (by simp) hcl (show refsVE (.ref C :: bm) = true from hbm) rfl (T.noN f hf) (fun h₃ tk₃ k₃ hn₃ => ?_)
  exact hq h₃ tk₃ k₃ hn₃
/-- what __init__ leaves of a fresh error at x -/
structure InitEnd (h h' : Heap) (x C dx : Addr) (fs : List Str) (vs : List Value) : Prop where
  keep : ∀ b o, b ≠ x → h.get? b = some o → h'.get? b = some o
  obj : ∃ t1, h'.get? x = some { cls := .ref C, dict := some dx, data := .fields #[.ref t1, .none, .none, .none, .bool false, .none] }
  dbig : h.objs.size ≤ dx
  dne : dx ≠ x
  ns : ∃ mA, h'.Ns1 dx mA ∧ ∀ y, mA y = (fs.zip vs).lookup y
/-- how the arguments of such an __init__ come to its names -/
def InitBind (fs : List Str) : Prop := ∀ (qual t : Str) (p : IPos) (doc pm : Value) (an : Option Addr) (cdv ct : Value) (cc : Addr) (self : Value) (vs : List Value), vs.length = fs.length →
  bindArgs (ksFn "__init__" qual (iArgs fs p) (iBody fs t p) (iScope fs) .none .none doc pm an cdv ct cc) ⟨self :: vs, []⟩ = pure ((("self" : Str), self) :: fs.zip vs)
theorem ib_value : InitBind ["value"] := fun _ _ _ _ _ _ _ _ _ _ vs h => match vs, h with | [_], _ => rfl
theorem ib_place : InitBind ["place"] := fun _ _ _ _ _ _ _ _ _ _ vs h => match vs, h with | [_], _ => rfl
theorem ib_word : InitBind ["word"] := fun _ _ _ _ _ _ _ _ _ _ vs h => match vs, h with | [_], _ => rfl
theorem ib_stream : InitBind ["stream"] := fun _ _ _ _ _ _ _ _ _ _ vs h => match vs, h with | [_], _ => rfl
theorem ib_most : InitBind ["most"] := fun _ _ _ _ _ _ _ _ _ _ vs h => match vs, h with | [_], _ => rfl
theorem ib_number : InitBind ["number"] := fun _ _ _ _ _ _ _ _ _ _ vs h => match vs, h with | [_], _ => rfl
theorem ib_name : InitBind ["name"] := fun _ _ _ _ _ _ _ _ _ _ vs h => match vs, h with | [_], _ => rfl
theorem ib_linecol : InitBind ["line", "column"] := fun _ _ _ _ _ _ _ _ _ _ vs h => match vs, h with | [_, _], _ => rfl
theorem ib_wordplace : InitBind ["word", "place"] := fun _ _ _ _ _ _ _ _ _ _ vs h => match vs, h with | [_, _], _ => rfl
theorem kept_but {h h' : Heap} {x : Addr} (X : K.In h) (hx : K.lookup x = none) (k : ∀ b o, b ≠ x → h.get? b = some o → h'.get? b = some o) : K.In h' := fun a o e =>
  k a o (fun z => by rw [z, hx] at e; cases e) (X a o e)
theorem ns_but {h h' : Heap} {x a : Addr} {m : Str → Option Value} (n : h.Ns a m) (hx : ∀ o, h.get? x = some o → ∀ es ep, o.data ≠ .dict es ep) (k : ∀ b o, b ≠ x → h.get? b = some o → h'.get? b = some o) : h'.Ns a m := by
  obtain ⟨o, es, ep, e, d, r⟩ := n
  exact ⟨o, es, ep, k _ _ (fun z => hx o (z ▸ e) es ep d) e, d, r⟩
theorem ex_init1 {f : Str} (T : ExT K prog C fI [f]) (ib : InitBind [f]) {x t0 : Addr} {v : Value} {R : Result → Shared → Prop} (X : K.In s.heap) (hlim : s.heap.NoLimit) (G : s.heap.Ns mainGlobals mg) (gS : mg "super" = none) (B : s.heap.Ns builtinsNs mb) (bS : mb "super" = some (.type "super"))
    (hx : s.heap.get? x = some (excO C t0)) (hnx : K.lookup x = none) (hroom : A.depth < recursionLimit)
    (hq : ∀ h' tk dx, InitEnd s.heap h' x C dx [f] [v] → R (.ok (.ret .none)) { s with heap := h', toks := tk }) :
    codeAny (model prog w) A (.call (.ref fI) ⟨[.ref x, v], []⟩) R s := by
  obtain ⟨oc, od, qual, t, p, doc, pm, an, cda, cc, ct, osl, file, tf, ccl, cl, cdd, cld, vs, ccs, csl, ho, hli, hcd, hcda, hvs, hfile, hcc⟩ := T.fn
  have ns := beq_ne (ne_of T.nsl.1 (b := f) (by simp))
  have nu := beq_ne (ne_of T.nsl.2.1 (b := f) (by simp))
  have nc := beq_ne (ne_of T.nsl.2.2.1 (b := f) (by simp))
  have ns' : (("self" : Str) == f) = false := beq_ne (ne_of T.nsl.1 (b := f) (by simp)).symm
  have nu' : (("super" : Str) == f) = false := beq_ne (ne_of T.nsl.2.1 (b := f) (by simp)).symm
  have nc' : (("__class__" : Str) == f) = false := beq_ne (ne_of T.nsl.2.2.1 (b := f) (by simp)).symm
  have hka : (iScope [f]).names.lookup ("self" : Str) = some .local := by simp [iScope, List.lookup]
  have hkf : (iScope [f]).names.lookup f = some .local := by simp [iScope, List.lookup, ns]
  have hks : (iScope [f]).names.lookup ("super" : Str) = some .globalImplicit := by
    simp only [iScope, List.lookup, List.map, List.cons_append, List.nil_append]
    rw [nu']
    decide +kernel
  have hkc : (iScope [f]).names.lookup ("__class__" : Str) = some .free := by
    simp only [iScope, List.lookup, List.map, List.cons_append, List.nil_append]
    rw [nc']
    decide +kernel
  have hxL : s.heap.objs.size ≠ x := Nat.ne_of_gt (Heap.lt_size hx)
  refine ks_codeAny_call_defAt (binds := [("self", .ref x), (f, v)]) hroom (X _ _ ho) rfl hlim (codeRec_of X hcd) rfl (BindsTo.of_eq (ib _ _ _ _ _ _ _ _ _ _ _ rfl)) ?_ ?_ (fun h₁ hn k => ?_) rfl rfl rfl
  · intro y hy
    simp [iScope] at hy
    rcases hy with rfl | rfl | rfl | rfl <;> simp
  · intro y hy
    simp only [List.mem_cons, List.not_mem_nil, or_false] at hy
    rcases hy with rfl | rfl
    · exact hka
    · exact hkf
  · have X₁ : K.In h₁ := X.keeps k
    have hx₁ := k _ _ hx
    have hself : ([(("self" : Str), Value.ref x), (f, v)].reverse.lookup ("self" : Str)) = some (.ref x) := by
      simp only [List.reverse_cons, List.reverse_nil, List.nil_append, List.cons_append, List.lookup]
      rw [ns']
      rfl
    have hfv : ([(("self" : Str), Value.ref x), (f, v)].reverse.lookup f) = some v := by simp [List.lookup]
    have nd : ∀ o, h₁.get? x = some o → ∀ es ep, o.data ≠ .dict es ep := fun o e => by
      rw [hx₁] at e
      cases e
      intro es ep z
      cases z
    refine ks_wpAt_execs_cons (sup_stmt T ho rfl rfl hcda hvs hfile hcc X₁ (G.keeps k) gS (B.keeps k) bS hn hself hli hks hkc hka hx₁ hxL.symm (fun h2 tk2 t1 k2 hx2 => ?_))
    have X₂ : K.In h2 := kept_but X₁ hnx k2
    refine ks_wpAt_execs_cons (wpAt_of_wpAny (set_first T (by simp) X₂ (ns_but hn nd k2) hself hfv hka hkf hx2 (fun h3 tk3 dx k3 dn dne hx3 hn3 => ?_)))
    show _root_.PySem.wpAt _ _ _ (execs [] _) _ _ _
    refine wpAt_of_wpAny (wpAny_execs_nil (hq h3 tk3 dx ⟨fun b o hb e => k3 b o hb (k2 b o hb (k b o e)), ⟨t1, hx3⟩, ?_, dne, ⟨_, hn3, fun y => ?_⟩⟩))
    · obtain ⟨oL, es, ep, hL, r⟩ := ns_but hn nd k2
      exact Nat.le_of_lt (Nat.lt_of_lt_of_le (Heap.lt_size hL) dn)
    · simp only [List.zip_cons_cons, List.zip_nil_left, List.lookup]
      by_cases e : y = f
      · simp [e]
      · simp [e, beq_ne e]
theorem ex_init2 {f g : Str} (T : ExT K prog C fI [f, g]) (ib : InitBind [f, g]) {x t0 : Addr} {v u : Value} {R : Result → Shared → Prop} (X : K.In s.heap) (hlim : s.heap.NoLimit) (G : s.heap.Ns mainGlobals mg) (gS : mg "super" = none) (B : s.heap.Ns builtinsNs mb) (bS : mb "super" = some (.type "super"))
    (hx : s.heap.get? x = some (excO C t0)) (hnx : K.lookup x = none) (hroom : A.depth < recursionLimit)
    (hq : ∀ h' tk dx, InitEnd s.heap h' x C dx [f, g] [v, u] → R (.ok (.ret .none)) { s with heap := h', toks := tk }) :
    codeAny (model prog w) A (.call (.ref fI) ⟨[.ref x, v, u], []⟩) R s := by
  obtain ⟨oc, od, qual, t, p, doc, pm, an, cda, cc, ct, osl, file, tf, ccl, cl, cdd, cld, vs, ccs, csl, ho, hli, hcd, hcda, hvs, hfile, hcc⟩ := T.fn
  have ns := beq_ne (ne_of T.nsl.1 (b := f) (by simp))
  have gs := beq_ne (ne_of T.nsl.1 (b := g) (by simp))
  have gf : (g == f) = false := beq_ne (fun z => by have q := T.nsl.2.2.2.2; rw [z] at q; simp at q)
  have ns' : (("self" : Str) == f) = false := beq_ne (ne_of T.nsl.1 (b := f) (by simp)).symm
  have nu' : (("super" : Str) == f) = false := beq_ne (ne_of T.nsl.2.1 (b := f) (by simp)).symm
  have nc' : (("__class__" : Str) == f) = false := beq_ne (ne_of T.nsl.2.2.1 (b := f) (by simp)).symm
  have gs' : (("self" : Str) == g) = false := beq_ne (ne_of T.nsl.1 (b := g) (by simp)).symm
  have gu' : (("super" : Str) == g) = false := beq_ne (ne_of T.nsl.2.1 (b := g) (by simp)).symm
  have gc' : (("__class__" : Str) == g) = false := beq_ne (ne_of T.nsl.2.2.1 (b := g) (by simp)).symm
  have fg : (f == g) = false := beq_ne (fun z => by rw [z] at gf; simp at gf)
  have hkg : (iScope [f, g]).names.lookup g = some .local := by simp [iScope, List.lookup, gs, gf]
  have hka : (iScope [f, g]).names.lookup ("self" : Str) = some .local := by simp [iScope, List.lookup]
  have hkf : (iScope [f, g]).names.lookup f = some .local := by simp [iScope, List.lookup, ns]
  have hks : (iScope [f, g]).names.lookup ("super" : Str) = some .globalImplicit := by
    simp only [iScope, List.lookup, List.map, List.cons_append, List.nil_append]
    rw [nu', gu']
    decide +kernel
  have hkc : (iScope [f, g]).names.lookup ("__class__" : Str) = some .free := by
    simp only [iScope, List.lookup, List.map, List.cons_append, List.nil_append]
    rw [nc', gc']
    decide +kernel
  have hxL : s.heap.objs.size ≠ x := Nat.ne_of_gt (Heap.lt_size hx)
  refine ks_codeAny_call_defAt (binds := [("self", .ref x), (f, v), (g, u)]) hroom (X _ _ ho) rfl hlim (codeRec_of X hcd) rfl (BindsTo.of_eq (ib _ _ _ _ _ _ _ _ _ _ _ rfl)) ?_ ?_ (fun h₁ hn k => ?_) rfl rfl rfl
  · intro y hy
    simp [iScope] at hy
    rcases hy with rfl | rfl | rfl | rfl | rfl <;> simp
  · intro y hy
    simp only [List.mem_cons, List.not_mem_nil, or_false] at hy
    rcases hy with rfl | rfl | rfl
    · exact hka
    · exact hkf
    · exact hkg
  · have X₁ : K.In h₁ := X.keeps k
    have hx₁ := k _ _ hx
    have hself : ([(("self" : Str), Value.ref x), (f, v), (g, u)].reverse.lookup ("self" : Str)) = some (.ref x) := by
      simp only [List.reverse_cons, List.reverse_nil, List.nil_append, List.cons_append, List.lookup]
      rw [gs', ns']
      rfl
    have hfv : ([(("self" : Str), Value.ref x), (f, v), (g, u)].reverse.lookup f) = some v := by simp [List.lookup, fg]
    have hgv : ([(("self" : Str), Value.ref x), (f, v), (g, u)].reverse.lookup g) = some u := by simp [List.lookup]
    have nd : ∀ o, h₁.get? x = some o → ∀ es ep, o.data ≠ .dict es ep := fun o e => by
      rw [hx₁] at e
      cases e
      intro es ep z
      cases z
    refine ks_wpAt_execs_cons (sup_stmt T ho rfl rfl hcda hvs hfile hcc X₁ (G.keeps k) gS (B.keeps k) bS hn hself hli hks hkc hka hx₁ hxL.symm (fun h2 tk2 t1 k2 hx2 => ?_))
    have X₂ : K.In h2 := kept_but X₁ hnx k2
    refine ks_wpAt_execs_cons (wpAt_of_wpAny (set_first T (by simp) X₂ (ns_but hn nd k2) hself hfv hka hkf hx2 (fun h3 tk3 dx k3 dn dne hx3 hn3 => ?_)))
    have big : s.heap.objs.size ≤ dx := by
      obtain ⟨oL, es, ep, hL, r⟩ := ns_but hn nd k2
      exact Nat.le_of_lt (Nat.lt_of_lt_of_le (Heap.lt_size hL) dn)
    have nd2 : ∀ o, h2.get? x = some o → ∀ es ep, o.data ≠ .dict es ep := fun o e => by
      rw [hx2] at e
      cases e
      intro es ep z
      cases z
    refine ks_wpAt_execs_cons (wpAt_of_wpAny (set_more T (by simp) (kept_but X₂ hnx k3) (ns_but (ns_but hn nd k2) nd2 k3) hself hgv hka hkg hx3 hn3 (fun h4 tk4 k4 hn4 => ?_)))
    show _root_.PySem.wpAt _ _ _ (execs [] _) _ _ _
    refine wpAt_of_wpAny (wpAny_execs_nil (hq h4 tk4 dx ⟨fun b o hb e => k4 b o (fun z => ?_) (k3 b o hb (k2 b o hb (k b o e))), ⟨t1, k4 _ _ dne.symm hx3⟩, big, dne, ⟨_, hn4, fun y => ?_⟩⟩))
    · rw [z] at e
      exact absurd (Heap.lt_size e) (Nat.not_lt.mpr big)
    · simp only [List.zip_cons_cons, List.zip_nil_left, List.lookup]
      by_cases e : y = f
      · subst e
        have : (y == g) = false := fg
        simp [this]
        intro z; rw [z] at this; simp at this
      · by_cases e2 : y = g
        · subst e2; simp [e, beq_ne e]
        · simp [e, e2, beq_ne e, beq_ne e2]
/-- a made error -/
structure OwnMade (h h' : Heap) (e C d : Addr) (fs : List Str) (vs : List Value) : Prop where
  keep : ∀ b o, h.get? b = some o → h'.get? b = some o
  new : h.objs.size ≤ e
  obj : ∃ oe ws, h'.get? e = some oe ∧ oe.cls = .ref C ∧ oe.dict = some d ∧ oe.data = .fields ws ∧ ws[1]? = some .none
  dbig : h.objs.size ≤ d
  dne : d ≠ e
  ns : ∃ mA, h'.Ns1 d mA ∧ ∀ y, mA y = (fs.zip vs).lookup y
theorem ex_made (T : ExT K prog C fI fs) (ib : InitBind fs) {vs : List Value} {R : Result → Shared → Prop} (hfs : (∃ f, fs = [f]) ∨ ∃ f g, fs = [f, g]) (hl : vs.length = fs.length) (X : K.In s.heap) (hlim : s.heap.NoLimit) (G : s.heap.Ns mainGlobals mg) (gS : mg "super" = none) (B : s.heap.Ns builtinsNs mb) (bS : mb "super" = some (.type "super"))
    (hroom : A.depth + 1 < recursionLimit) (hq : ∀ h' tk e d, OwnMade s.heap h' e C d fs vs → R (.ok (.ret (.ref e))) { s with heap := h', toks := tk }) :
    codeAny (model prog w) A (.call (.ref C) ⟨vs, []⟩) R s := by
  obtain ⟨nm, q, N, bs, bm, sn, sub, ab, col, dd, k0, k1, k2, k3, k5, hC, hbm⟩ := T.cls
  obtain ⟨hp, g, dr, tk, os⟩ := s
  have k : ∀ b o, hp.get? b = some o → ((hp.push (kdv_tup vs)).push (excO C hp.objs.size)).get? b = some o := fun b o e => Heap.get?_push_of_some _ (Heap.get?_push_of_some _ e)
  have hget : ((hp.push (kdv_tup vs)).push (excO C hp.objs.size)).get? (hp.objs.size + 1) = some (excO C hp.objs.size) := by heap_get
  have hnx : K.lookup (hp.objs.size + 1) = none := by
    cases e : K.lookup (hp.objs.size + 1) with
    | none => rfl
    | some o =>
      have z : hp.get? (hp.objs.size + 1) = some o := X _ _ e
      exact absurd (Nat.lt_of_succ_lt (Heap.lt_size z)) (Nat.lt_irrefl _)
  have hsz : vs.length ≤ sizeLine := by
    rw [hl, sizeLine_eq]
    rcases hfs with ⟨f, rfl⟩ | ⟨f, g, rfl⟩ <;> simp
  have fin : ∀ h' tk' dx, InitEnd ((hp.push (kdv_tup vs)).push (excO C hp.objs.size)) h' (hp.objs.size + 1) C dx fs vs → (InitBack (hp.objs.size + 1) R) (.ok (.ret .none)) ⟨h', g, dr, tk', os⟩ := fun h' tk' dx I => by
    obtain ⟨t1, hx⟩ := I.obj
    have old : ∀ b o, hp.get? b = some o → h'.get? b = some o := fun b o e => I.keep b o (Nat.ne_of_lt (Nat.lt_succ_of_lt (Heap.lt_size e))) (k b o e)
    have z : hp.objs.size + 1 + 1 ≤ dx := by
      have q := I.dbig
      rw [Heap.size_push, Heap.size_push] at q
      exact q
    exact ⟨rfl, hq h' tk' (hp.objs.size + 1) dx ⟨old, Nat.le_succ _, ⟨_, _, hx, rfl, rfl, rfl, rfl⟩, Nat.le_trans (Nat.le_trans (Nat.le_succ _) (Nat.le_succ _)) z, I.dne, I.ns⟩⟩
  refine call_own F.excBase_ValueError (fun X => refsVE_contains X bm hbm) (X _ _ hC) (looks_findIn X T.iC) (fun self => bind_fn X self T.tC) hsz ?_
  rcases hfs with ⟨f, rfl⟩ | ⟨f, g, rfl⟩
  · match vs, hl with
    | [v], _ => exact ex_init1 (s := ⟨_, _, dr, tk, os⟩) T ib (X.keeps k) (hlim.keeps k) (G.keeps k) gS (B.keeps k) bS hget hnx hroom fin
  · match vs, hl with
    | [v, u], _ => exact ex_init2 (s := ⟨_, _, dr, tk, os⟩) T ib (X.keeps k) (hlim.keeps k) (G.keeps k) gS (B.keeps k) bS hget hnx hroom fin
end
end OL
end
section
set_option Elab.async false
set_option linter.all false
set_option maxRecDepth 100000
/-! OL, part j: the text and the small language: what is seen, names, targets, single steps. -/
namespace OL
open PySem PySem.Spec PyProof.Rows L2

/-- what is known of a def's text: its slots' names, its scope, what the module's names are -/
structure G where
  N : List Str
  sc : Scope
  fn : Str → Bool
  fns : List (Str × Nat)
  cons : List (Str × Nat)
  exs : List (Str × Nat × List Str)
  blt : List Str
  hot : Bool
def okNm (x : Str) : Bool := !(x == ("__debug__" : Str)) && !(x == ("__classdict__" : Str)) && !(x == ("__name__" : Str))
def visB (g : G) (x : Str) : Bool := (match g.sc.names.lookup x with
  | some .local => true
  | some .cell => true
  | some .free => true
  | _ => false) && okNm x
def locB (g : G) (x : Str) : Bool := match g.sc.names.lookup x with
  | some .local => true
  | some .cell => g.fn x
  | _ => false
def glB (g : G) (x : Str) : Bool := (match g.sc.names.lookup x with
  | some .globalImplicit => true
  | _ => false) && okNm x
def bltB (g : G) (x : Str) : Bool := glB g x && decide (x ∈ g.blt)

/-- what is wanted behind a call -/
def postF (C : RC) (M π : List Addr) (H : Hp) (r : Res PV) (Q : VK) (E : XK) : Prop := match r with
  | .ok (.own v) μ' => ∀ a H' π' M', RA C M' π' M' H' [] [] μ' → St M π H M' π' H' → H a = none → a ∈ M' → a ∉ π' → RO C M' π' H' a v → Q (.ref a) H'
  | .ok v μ' => ∀ u H' π' M', RA C M' π' M' H' [] [] μ' → St M π H M' π' H' → RV C M' π' H' v u → Q u H'
  | .exc c fs μ' => ∀ cls d H' π' M', RA C M' π' M' H' [] [] μ' → St M π H M' π' H' → RX C M' π' H' c fs cls d → E cls d H'
  | .err => False
theorem postF_rv {C : RC} {M π M' π' : List Addr} {H H' : Hp} {v : PV} {u : V} {μ' : Sto} {Q : VK} {E : XK} (h : postF C M π H (.ok v μ') Q E) (R : RA C M' π' M' H' [] [] μ') (s : St M π H M' π' H') (rv : RV C M' π' H' v u) : Q u H' := by
  cases v with
  | own w => unfold RV at rv; exact rv.elim
  | _ => exact h u H' π' M' R s rv
/-- what the def f promises -/
def spF (C : RC) (cf : CF) (f : Nat) : Sp := fun vs H Q E => ∃ l μ π M, RA C M π M H [] [] μ ∧ RVs C M π H l vs ∧ postF C M π H (cf.call f l μ) Q E
/-- a def's promise, no guarded code being under way -/
structure FnG (P : Program) (w : World) (K : PySem.W.Frag) (mg : Str → Option Value) (base : Heap) (k : Nat) (f : Addr) (fd : FuncData) (ps : List Str) (sp : Sp) : Prop where
  len : ∀ vs H Q E, sp vs H Q E → vs.length = ps.length
  run : ∀ (A : Around) (outer : List PySem.Env) (s : Shared) (H : Hp) (args : Args) (us : List Value) (vs : List V) (Q : VK) (E : XK), Room k A → A.guards = some [] → Env0 P w K mg base A outer s H → BindsTo s fd args (ps.zip us) → Vals vs us → sp vs H Q E →
    codeAny (model P w) A (.call (.ref f) args) (CR (L2.CX P w) outer P w H s Q E) s

/-- the error class c: what makes it, its fields -/
structure ExOk (K : PySem.W.Frag) (P : Program) (C : RC) (c : Nat) : Prop where
  mkr : ∃ fI, ExT K P (C.ca c) fI (C.nm c)
  ib : InitBind (C.nm c)
  fs : (∃ f, C.nm c = [f]) ∨ ∃ f g, C.nm c = [f, g]
  xf : XfC K (C.ca c)
  lt : c < C.ncl
/-- the context in which a text is read -/
structure GOk (X : Cx) (g : G) (C : RC) (cf : CF) (W : WX) : Prop where
  K : C.K = X.K
  N : X.N = g.N
  sc : X.env.scope = g.sc
  kind : g.sc.kind = .function
  fn : ∀ x, g.fn x = true → X.fn x = true
  nd : g.N.Nodup
  calm : g.hot = false → X.calm = true
  un : X.A.units + 300 < cLine
  gd : X.A.guards = some []
  blt : ∀ x ∈ g.blt, X.mg x = none
  cons : ∀ p ∈ g.cons, ∃ u v, X.mg p.1 = some u ∧ RelV v u ∧ ∀ M π H, RV C M π H (cf.glo p.2) v
  fns : ∀ p ∈ g.fns, X.mg p.1 = some (.ref (C.fa p.2))
  call : g.hot = false → ∀ p ∈ g.fns, ∃ k fd ps, FnG X.prog X.w X.K X.mg X.base k (C.fa p.2) fd ps (spF C cf p.2) ∧ Room k X.A ∧ PySem.W.keepIn X.K (.ref (C.fa p.2)) = true ∧ Binds X.K fd ps []
  exs : ∀ p ∈ g.exs, X.mg p.1 = some (.ref (C.ca p.2.1)) ∧ C.nm p.2.1 = p.2.2 ∧ ExOk X.K X.prog C p.2.1
  exm : ∀ c, c < C.ncl → ∀ q ∈ g.exs, PySem.W.exmOne X.K (.ref (C.ca c)) (.ref (C.ca q.2.1)) = some (cf.sub c q.2.1)
  exn : g.hot = false → C.ex = none
  hx : ∀ a c d, C.ex = some (a, c, d) → ∃ (X0 : Cx) (oe : Obj) (pn : List (Addr × Obj)), X = X0.suite a ((a, oe) :: pn) ∧ Zc (.ref (C.ca c)) d oe ∧ ∃ vs, oe.data = .fields vs
  sup : X.mg "super" = none
  dep : X.A.depth + 2 < recursionLimit
  tk : Takes X W

section
variable {X : Cx} {g : G} {C : RC} {cf : CF} {W : WX} {k : Bool}
theorem okNm_all {x : Str} (h : okNm x = true) : (x == ("__debug__" : Str)) = false ∧ (x == ("__classdict__" : Str)) = false ∧ x ≠ "__name__" := by
  unfold okNm at h
  simp only [Bool.and_eq_true, Bool.not_eq_true'] at h
  exact ⟨h.1.1, h.1.2, fun e => by rw [e] at h; simp at h⟩
theorem vis_of (o : GOk X g C cf W) {x : Str} (h : visB g x = true) : Vis X.env.scope x ∧ okNm x = true := by
  unfold visB at h
  rw [o.sc]
  rw [Bool.and_eq_true] at h
  refine ⟨?_, h.2⟩
  have h1 := h.1
  split at h1
  · exact .inl (by assumption)
  · exact .inr (.inl (by assumption))
  · exact .inr (.inr (by assumption))
  · cases h1
theorem gl_of (o : GOk X g C cf W) {x : Str} (h : glB g x = true) : Gl X x ∧ okNm x = true := by
  unfold glB at h
  rw [Bool.and_eq_true] at h
  refine ⟨?_, h.2⟩
  have h1 := h.1
  split at h1
  · show X.env.scope.names.lookup x = _
    rw [o.sc]
    assumption
  · cases h1
theorem blt_of (o : GOk X g C cf W) {x : Str} (h : bltB g x = true) : Gl X x ∧ okNm x = true ∧ X.mg x = none := by
  unfold bltB at h
  rw [Bool.and_eq_true] at h
  obtain ⟨h1, h2⟩ := gl_of o h.1
  exact ⟨h1, h2, o.blt x (of_decide_eq_true h.2)⟩
theorem loc_of (o : GOk X g C cf W) {x : Str} (h : locB g x = true) : Loc X.env.scope x ∧ (X.fn x = true ∨ X.env.scope.names.lookup x = some .local) := by
  unfold locB at h
  rw [o.sc]
  split at h
  · exact ⟨.inl (by assumption), .inr (by assumption)⟩
  · exact ⟨.inr (by assumption), .inl (o.fn x h)⟩
  · cases h

/-! ### names -/
theorem slot_at {en : Env} {i : Nat} {v : PV} (h : slot en i = some v) : en[i]? = some (some v) := by
  unfold slot at h
  cases e : en[i]? with
  | none => rw [e] at h; cases h
  | some o =>
    rw [e] at h
    cases o with
    | none => cases h
    | some w => cases h; rfl
theorem plain_re {M π ow : List Addr} {H : Hp} {v w : PV} {u : V} (h : plain v = some w) (r : RE C M π ow H v u) : RV C M π H w u := by
  cases v with
  | own z => cases h
  | exc c fs => cases h
  | clo c fs => cases h
  | _ =>
    cases h
    exact r
theorem var_ok (o : GOk X g C cf W) {i : Nat} {x : Str} {p : Pos} (h1 : g.N[i]? = some x) (h2 : visB g x = true) : PE X (.Name x p) (tE C W k (evE cf (.var i))) := by
  obtain ⟨hv, hn⟩ := vis_of o h2
  obtain ⟨n1, n2, _⟩ := okNm_all hn
  refine (pe_var (i := i) (by rw [o.N]; exact h1) hv n1 n2).imp fun σ H Q h => ?_
  obtain ⟨en, μ, π, M, ow, R, h⟩ := h
  unfold evE at h
  obtain ⟨w, e, h⟩ := opt_inv h
  obtain ⟨v, e1, e2⟩ := Option.bind_eq_some_iff.mp e
  obtain ⟨u, e3, r⟩ := R.ev i v (slot_at e1)
  exact ⟨u, e3, h.val R (plain_re e2 r)⟩
theorem own_ok (o : GOk X g C cf W) {i : Nat} {x : Str} {p : Pos} (h1 : g.N[i]? = some x) (h2 : visB g x = true) : PE X (.Name x p) (tE C W false (evE cf (.own i))) := by
  obtain ⟨hv, hn⟩ := vis_of o h2
  obtain ⟨n1, n2, _⟩ := okNm_all hn
  refine (pe_var (i := i) (by rw [o.N]; exact h1) hv n1 n2).imp fun σ H Q h => ?_
  obtain ⟨en, μ, π, M, ow, R, h⟩ := h
  unfold evE at h
  obtain ⟨w, e, h⟩ := opt_inv h
  obtain ⟨v, e1, e2⟩ := Option.bind_eq_some_iff.mp e
  obtain ⟨u, e3, r⟩ := R.ev i v (slot_at e1)
  refine ⟨u, e3, h.ok R ?_⟩
  cases v with
  | own z =>
    cases e2
    obtain ⟨a, rfl, _, n, _, ro⟩ := r
    show RW C M π H w _
    cases w with
    | lv l =>
      obtain ⟨xs, e, r⟩ := ro
      exact ⟨a, xs, rfl, n, e, r⟩
    | dv ks vs =>
      obtain ⟨xs, e, hl, r⟩ := ro
      exact ⟨a, xs, rfl, n, e, hl, r⟩
    | _ => exact ro.elim
  | _ => cases e2
theorem con_ok {v : PV} {e : Expr} {t : TE} {u : V} (h : PE X e t) (ht : ∀ σ H Q, Q u H → t σ H Q) (r : ∀ M π H, RV C M π H v u) : PE X e (tE C W k (evE cf (.con v))) := by
  refine h.imp fun σ H Q h => ?_
  obtain ⟨en, μ, π, M, ow, R, h⟩ := h
  unfold evE at h
  exact ht _ _ _ (h.val R (r _ _ _))
theorem glo_ok (o : GOk X g C cf W) {x : Str} {n : Nat} {p : Pos} (h1 : (x, n) ∈ g.cons) (h2 : glB g x = true) : PE X (.Name x p) (tE C W k (evE cf (.glo n))) := by
  obtain ⟨hg, hn⟩ := gl_of o h2
  obtain ⟨u, v, hm, rv, hr⟩ := o.cons _ h1
  refine (pe_glob hg hm rv (okNm_all hn).1).imp fun σ H Q h => ?_
  obtain ⟨en, μ, π, M, ow, R, h⟩ := h
  unfold evE at h
  exact h.val R (hr _ _ _)
theorem fnv_ok (o : GOk X g C cf W) {x : Str} {n : Nat} {p : Pos} (h1 : (x, n) ∈ g.fns) (h2 : glB g x = true) : PE X (.Name x p) (tE C W k (evE cf (.con (.fn n)))) := by
  obtain ⟨hg, hn⟩ := gl_of o h2
  exact con_ok (pe_glob (v := .ref (C.fa n)) hg (o.fns _ h1) rfl (okNm_all hn).1) (fun _ _ _ h => h) fun M π H => by unfold RV; rfl

/-! ### steps -/
theorem bin_ok (o : GOk X g C cf W) {p : Bop} {a b : E} {ea eb : Expr} {pos : Pos} (ha : PE X ea (tE C W false (evE cf a))) (hb : PE X eb (tE C W false (evE cf b))) : PE X (.BinOp ea (opM p) eb pos) (tE C W k (evE cf (.bin p a b))) := by
  refine (pe_op (op_bin (W := W) (k := k) o.K p) ha hb).imp fun σ H Q h => ?_
  obtain ⟨en, μ, π, M, ow, R, h⟩ := h
  unfold evE at h
  have h2 := two (ka := false) (kb := false) (ea := ea) (eb := eb) R h
  exact h2.mono fun x H1 hx => hx.mono fun y H2 ⟨va, vb, μ2, π2, M2, R2, r1, r2, hp⟩ => ⟨en, σ, μ2, π2, M2, ow, va, vb, R2, r1, r2, hp⟩
theorem cmp_ok (o : GOk X g C cf W) {p : Cop} {a b : E} {ea eb : Expr} {pos : Pos} (ha : PE X ea (tE C W false (evE cf a))) (hb : PE X eb (tE C W false (evE cf b))) (hm : behindInMarks (copM p) eb = false) : PE X (.Compare ea [copM p] [eb] pos) (tE C W k (evE cf (.cmp p a b))) := by
  have hu := o.un
  refine (pe_cmpR (op_cmp (W := W) (k := k) o.K (by omega) p) ha hb hm).imp fun σ H Q h => ?_
  obtain ⟨en, μ, π, M, ow, R, h⟩ := h
  unfold evE at h
  have h2 := two (ka := false) (kb := false) (ea := ea) (eb := eb) (g := cmpR p) R h
  exact h2.mono fun x H1 hx => hx.mono fun y H2 ⟨va, vb, μ2, π2, M2, R2, r1, r2, hp⟩ => ⟨en, σ, μ2, π2, M2, ow, va, vb, R2, r1, r2, hp⟩
theorem idx_ok (o : GOk X g C cf W) {a b : E} {ea eb : Expr} {pos : Pos} (ha : PE X ea (tE C W false (evE cf a))) (hb : PE X eb (tE C W false (evE cf b))) (hs : PlainIx eb) : PE X (.Subscript ea eb pos) (tE C W k (evE cf (.idx a b))) := by
  have hu := o.un
  refine (pe_ix (ix_all (W := W) (k := k) o.K (by omega)) ha hb hs).imp fun σ H Q h => ?_
  obtain ⟨en, μ, π, M, ow, R, h⟩ := h
  unfold evE at h
  have h2 := two (ka := false) (kb := false) (ea := ea) (eb := eb) (g := idxR) R h
  exact h2.mono fun x H1 hx => hx.mono fun y H2 ⟨va, vb, μ2, π2, M2, R2, r1, r2, hp⟩ => ⟨en, σ, μ2, π2, M2, ow, va, vb, R2, r1, r2, hp⟩
/-- one part, then the rest -/
theorem one {α β : Type} {rel : Rl α β} {ra : Env → Sto → Res PV} {ka : Bool} {f : PV → Sto → Res α} {M π : List Addr} {ow : List Addr} {H : Hp} {en : Env} {σ : L2.St} {μ : Sto} {Q : β → Hp → Prop} {Q' : VK}
    (R : RA C M π ow H en σ μ) (h : post C W rel ow en σ M π H ((ra en μ).bind f) Q) (hq : ∀ v μ1 π1 M1 x H1, RA C M1 π1 ow H1 en σ μ1 → RK ka C M1 π1 H1 v x → post C W rel ow en σ M1 π1 H1 (f v μ1) Q → Q' x H1) : tE C W ka ra σ H Q' := by
  refine (tR_bind (rel := RKr ka) R h).mono fun x H1 ⟨v, μ1, π1, M1, R1, _, r, hp⟩ => hq v μ1 π1 M1 x H1 R1 r hp
theorem neg_ok (o : GOk X g C cf W) {a : E} {ea : Expr} {pos : Pos} (ha : PE X ea (tE C W false (evE cf a))) : PE X (.UnaryOp .USub ea pos) (tE C W k (evE cf (.neg a))) := by
  refine (pe_un un_neg ha).imp fun σ H Q h => ?_
  obtain ⟨en, μ, π, M, ow, R, h⟩ := h
  unfold evE at h
  refine one R h fun v μ1 π1 M1 x H1 R1 r hp => ?_
  split at hp
  · exact ⟨_, rv_int (r.rw R1.sub), hp.val R1 (by unfold RV; rfl)⟩
  · exact hp.elim
/-- truth of a value at hand -/
theorem tr_inv {α β : Type} {rel : Rl α β} {M π : List Addr} {ow : List Addr} {H : Hp} {en : Env} {σ : L2.St} {μ : Sto} {v : PV} {x : V} {f : Bool → Sto → Res α} {Q : β → Hp → Prop} (hK : C.K = X.K) (R : RA C M π ow H en σ μ) (r : RW C M π H v x)
    (h : post C W rel ow en σ M π H ((trR v μ).bind f) Q) : ∃ b, TruV X.K x H b ∧ post C W rel ow en σ M π H (f b μ) Q := by
  unfold trR at h
  cases e : truth μ v with
  | none => rw [e] at h; exact h.elim
  | some b =>
    rw [e] at h
    exact ⟨b, tru_rv hK R r e, h⟩
theorem not_ok (o : GOk X g C cf W) {a : E} {ea : Expr} {pos : Pos} (ha : PE X ea (tE C W false (evE cf a))) : PE X (.UnaryOp .Not ea pos) (tE C W k (evE cf (.not a))) := by
  refine (pe_notT ha).imp fun σ H Q h => ?_
  obtain ⟨en, μ, π, M, ow, R, h⟩ := h
  unfold evE at h
  refine one R h fun v μ1 π1 M1 x H1 R1 r hp => ?_
  obtain ⟨b, hb, hp⟩ := tr_inv o.K R1 (r.rw R1.sub) hp
  exact ⟨b, hb, hp.val R1 (by unfold RV; rfl)⟩
theorem tE_of {r : Env → Sto → Res PV} {M π : List Addr} {ow : List Addr} {H : Hp} {en : Env} {σ : L2.St} {μ : Sto} {Q : VK} (R : RA C M π ow H en σ μ) (h : post C W (RKr k) ow en σ M π H (r en μ) Q) : tE C W k r σ H Q := ⟨en, μ, π, M, ow, R, h⟩
theorem and_ok (o : GOk X g C cf W) {a b : E} {ea eb : Expr} {es : List Expr} {pos : Pos} (ha : PE X ea (tE C W k (evE cf a))) (hb : PE X (.BoolOp .And (eb :: es) pos) (tE C W k (evE cf b))) : PE X (.BoolOp .And (ea :: eb :: es) pos) (tE C W k (evE cf (.and a b))) := by
  refine (pe_andT ha hb).imp fun σ H Q h => ?_
  obtain ⟨en, μ, π, M, ow, R, h⟩ := h
  unfold evE at h
  refine one R h fun v μ1 π1 M1 x H1 R1 r hp => ?_
  obtain ⟨c, hc, hp⟩ := tr_inv o.K R1 (r.rw R1.sub) hp
  refine ⟨c, hc, ?_⟩
  cases c with
  | true => exact tE_of R1 hp
  | false => exact hp.ok R1 r
theorem or_ok (o : GOk X g C cf W) {a b : E} {ea eb : Expr} {es : List Expr} {pos : Pos} (ha : PE X ea (tE C W k (evE cf a))) (hb : PE X (.BoolOp .Or (eb :: es) pos) (tE C W k (evE cf b))) : PE X (.BoolOp .Or (ea :: eb :: es) pos) (tE C W k (evE cf (.or a b))) := by
  refine (pe_orT ha hb).imp fun σ H Q h => ?_
  obtain ⟨en, μ, π, M, ow, R, h⟩ := h
  unfold evE at h
  refine one R h fun v μ1 π1 M1 x H1 R1 r hp => ?_
  obtain ⟨c, hc, hp⟩ := tr_inv o.K R1 (r.rw R1.sub) hp
  refine ⟨c, hc, ?_⟩
  cases c with
  | false => exact tE_of R1 hp
  | true => exact hp.ok R1 r
/-! ### calls of the module's defs -/
theorem run_fnG {f : Addr} {fd : FuncData} {ps : List Str} {sp : Sp} {n : Nat} {pins : List (Addr × Obj)} {σ : L2.St} {H : Hp} {s : Shared} {Q : VK} {us : List Value} {vs : List V} (F : FnG X.prog X.w X.K X.mg X.base n f fd ps sp) (hr : Room n X.A) (hgd : X.A.guards = some []) (hb : Binds X.K fd ps []) (hx : PassesAt (L2.CX X.prog X.w) X σ (WE W σ))
    (I : Inv X pins σ H s) (r : Vals vs us) (h : sp vs H Q (WE W σ)) : wpAny (model X.prog X.w) X.A (PySem.call (.ref f) us) (EP X pins σ Q) X.xe s := by
  have hl : us.length = ps.length := by rw [← r.length]; exact F.len _ _ _ _ h
  have b := hb s us I.kIn (by rw [List.append_nil]; exact hl)
  rw [List.append_nil] at b
  refine wpAny_call (codeAny_mono (F.run X.A X.stack s H ⟨us, []⟩ us vs Q (WE W σ) hr hgd I.env0 b r h) fun r s' hq => ?_)
  cases r with
  | error e => exact hx pins H s e s' I hq
  | ok fl =>
    cases fl with
    | ret u => exact I.after hq
    | next => exact False.elim hq
    | brk => exact False.elim hq
    | cont => exact False.elim hq
theorem pe_callF {f : Addr} {fd : FuncData} {ps : List Str} {sp : Sp} {n : Nat} {x : Str} {p pos : Pos} {e : Expr} {es : List Expr} {t : TA} (F : FnG X.prog X.w X.K X.mg X.base n f fd ps sp) (hr : Room n X.A) (hgd : X.A.guards = some []) (hg : Gl X x) (hm : X.mg x = some (.ref f)) (hk : PySem.W.keepIn X.K (.ref f) = true) (hb : Binds X.K fd ps []) (hx : ∀ σ, PassesAt (L2.CX X.prog X.w) X σ (WE W σ))
    (ha : PA X (e :: es) t) (hdb : (x == ("__debug__" : Str)) = false) (he : starEach (e :: es) X.env = (false, eval e X.env) :: starEach es X.env) (hpl : (backTo pos (starEach es X.env)).any (·.1) = false) :
    PE X (.Call (.Name x p) (e :: es) [] pos) (tCallS sp (WE W) t) := by
  refine ⟨fun pins s σ H Q I h => ?_⟩
  refine wpAny_Call_Name_kw (ld_glob I hg hm ?_ hdb)
  refine PySem.W.callWith_K (h₀ := X.base) I.ok.mod.kin hk (thn (ha.run pos pins s σ H _ I h) fun us s1 ⟨vs, H1, I1, r, q⟩ => ⟨I1.kIn, ?_⟩) he hpl
  exact run_fnG F hr hgd hb (hx σ) I1 r q
theorem pe_callF0 {f : Addr} {fd : FuncData} {sp : Sp} {n : Nat} {x : Str} {p pos : Pos} {ps : List Str} (F : FnG X.prog X.w X.K X.mg X.base n f fd ps sp) (hr : Room n X.A) (hgd : X.A.guards = some []) (hg : Gl X x) (hm : X.mg x = some (.ref f)) (hk : PySem.W.keepIn X.K (.ref f) = true) (hb : Binds X.K fd ps []) (hx : ∀ σ, PassesAt (L2.CX X.prog X.w) X σ (WE W σ))
    (hdb : (x == ("__debug__" : Str)) = false) :
    PE X (.Call (.Name x p) [] [] pos) (tCallS sp (WE W) tNil) := by
  refine ⟨fun pins s σ H Q I h => ?_⟩
  refine wpAny_Call_Name_kw (ld_glob I hg hm ?_ hdb)
  refine PySem.W.callWith_K0 I.kIn hk ?_
  exact run_fnG F hr hgd hb (hx σ) I .nil h
end
end OL
end
section
set_option Elab.async false
set_option linter.all false
set_option maxRecDepth 100000
set_option maxHeartbeats 1000000
/-! OL, part ja: own errors: made, their fields read. -/
namespace OL
open PySem PySem.Spec PyProof.Rows L2
theorem relO_zip (f : Str) : ∀ {nm : List Str} {vs : List V} {us : List Value}, Vals vs us → RelO ((nm.zip vs).lookup f) ((nm.zip us).lookup f)
  | [], _, _, _ => by simp only [List.zip_nil_left, List.lookup]; trivial
  | n :: nm, [], [], _ => by simp only [List.zip_nil_right, List.lookup]; trivial
  | n :: nm, v :: vs, u :: us, .cons r rs => by
    simp only [List.zip_cons_cons, List.lookup]
    cases (f == n) with
    | true => exact r
    | false => exact relO_zip f rs
section
variable {X : Cx} {g : G} {C : RC} {cf : CF} {W : WX} {k : Bool}
theorem pmk_ex (o : GOk X g C cf W) {q : Str × Nat × List Str} {e : Expr} {es : List Expr} {ta : TA} {p pos : Pos} (hq : q ∈ g.exs) (hg : glB g q.1 = true) (ha : PA X (e :: es) ta)
    (he : starEach (e :: es) X.env = (false, eval e X.env) :: starEach es X.env) (hpl : (backTo pos (starEach es X.env)).any (·.1) = false) :
    PMk X (.Call (.Name q.1 p) (e :: es) [] pos) (fun σ H Q => ta σ H fun vs H1 => vs.length = (C.nm q.2.1).length ∧ ∀ d, H1 d = none → Q (.ref (C.ca q.2.1)) (some d) (upd H1 d (.xd ((C.nm q.2.1).zip vs)))) := by
  obtain ⟨g1, _, ok⟩ := o.exs q hq
  obtain ⟨fI, T⟩ := ok.mkr
  obtain ⟨hgl, hn⟩ := gl_of o hg
  obtain ⟨n1, n2, n3⟩ := okNm_all hn
  intro pins s σ H Q I h
  refine wpAny_Call_Name_kw (ld_glob I hgl g1 ?_ n1)
  refine PySem.W.callWith_K (h₀ := X.base) I.ok.mod.kin T.kC (thn (ha.run pos pins s σ H _ I h) fun us s1 hh => ?_) he hpl
  obtain ⟨vs, H1, I1, r1, hl, q1⟩ := hh
  refine ⟨I1.kIn, ?_⟩
  show wpAny _ _ (call (.ref (C.ca q.2.1)) us) _ _ _
  have hlim := I1.nolimit
  obtain ⟨mb, b1, b2⟩ := I1.mod.blt
  have bS : mb "super" = some (.type "super") := (b2 "super" (by decide +kernel)).trans (by decide +kernel)
  have G1 := I1.mod.glob.keeps I1.bk
  have B1 := b1.keeps I1.bk
  have dep := o.dep
  obtain ⟨hp, gg, dr, tk, os⟩ := s1
  have hul : us.length = (C.nm q.2.1).length := by rw [← hl]; exact (Vals.length r1).symm
  refine wpAny_call (ex_made T ok.ib ok.fs hul I1.kIn hlim G1 o.sup B1 bS (Nat.lt_of_succ_lt dep) fun h' tk' e d M => ?_)
  show MkP X pins σ Q (.ref e) ⟨h', gg, dr, tk', os⟩
  obtain ⟨oe, fv, hoe, hc, hd, hdat, h1⟩ := M.obj
  obtain ⟨mA, hns, hmA⟩ := M.ns
  obtain ⟨G', z1, z2⟩ := restrict h' fun b => decide (b ≠ e)
  have gk : ∀ b, b ≠ e → G'.get? b = h'.get? b := fun b hb => z1 b (decide_eq_true hb)
  have ge : G'.get? e = none := z2 e (by simp)
  have old : ∀ b o, hp.get? b = some o → G'.get? b = some o := fun b o q => (gk b (Nat.ne_of_lt (Nat.lt_of_lt_of_le (Heap.lt_size q) M.new))).trans (M.keep b o q)
  have ob : ObjOk X.prog X.w (upd H1 d (.xd ((C.nm q.2.1).zip vs))) G' d (.xd ((C.nm q.2.1).zip vs)) :=
    ⟨_, hns.at (fun o q => (gk d M.dne).trans q), fun f => by rw [hmA f]; exact relO_zip f r1⟩
  have J : Inv X pins σ (upd H1 d (.xd ((C.nm q.2.1).zip vs))) ⟨G', gg, dr, tk', os⟩ := I1.laid (t' := tk') old M.dbig ob
  refine ⟨e, oe, fv, ⟨G', gg, dr, tk', os⟩, _, .ref (C.ca q.2.1), some d, rfl, J, fun b o q => ?_, ge, hoe, ⟨hc, hd⟩, hdat, h1, ?_, rfl, I1.bare, raises_own T.exC T.tyC, q1 d (I1.hok.fresh M.dbig)⟩
  · by_cases hb : b = e
    · have q' : G'.get? b = some o := q
      rw [hb, ge] at q'; cases q'
    · exact (gk b hb).symm.trans q
  · rw [upd_ne (Ne.symm M.dne)]
    exact I1.hok.fresh M.new
theorem zip_at {nm : List Str} {xs : List V} {n : Nat} {f : Str} {x : V} (nd : nm.Nodup) (h : nm[n]? = some f) (hx : xs[n]? = some x) : (nm.zip xs).lookup f = some x := by
  induction nm generalizing xs n with
  | nil => simp at h
  | cons a nm ih =>
    cases xs with
    | nil => simp at hx
    | cons y xs =>
      simp only [List.zip_cons_cons, List.lookup]
      cases n with
      | zero =>
        simp at h hx
        simp [h, hx]
      | succ n =>
        simp at h hx
        have nd' := List.nodup_cons.mp nd
        have : f ≠ a := fun z => nd'.1 (z ▸ List.mem_of_getElem? h)
        have e : (f == a) = false := by simpa using this
        rw [e]
        exact ih nd'.2 h hx
/-- e.f in an except suite -/
theorem fld_ok (o : GOk X g C cf W) {i n : Nat} {q : Str × Nat × List Str} {x f : Str} {p pos : Pos} (hi : g.N[i]? = some x) (hv : visB g x = true) (hq : q ∈ g.exs) (hf : q.2.2[n]? = some f) :
    PE X (.Attribute (.Name x p) f pos) (tE C W k (evE cf (.fld i q.2.1 n))) := by
  refine ⟨fun pins s σ H Q I h => ?_⟩
  obtain ⟨en, μ, π, M, ow, R, h⟩ := h
  obtain ⟨_, hnm, ok⟩ := o.exs q hq
  obtain ⟨fI, T⟩ := ok.mkr
  rw [evE] at h
  split at h
  · rename_i c' fs e
    split at h
    · rename_i ec
      subst ec
      obtain ⟨v, e2, h⟩ := opt_inv h
      obtain ⟨u, s1, a, d, hex, rfl, hfs⟩ := R.ev i _ (slot_at e)
      obtain ⟨X0, oe, pn, rfl, hz, hdat⟩ := o.hx _ _ _ hex
      rcases hfs with rfl | ⟨dd, xs, rfl, hdd, hlen, rx⟩
      · simp at e2
      · obtain ⟨y, hy, ry⟩ := rx.get e2
        obtain ⟨v1, n0⟩ := vis_of o hv
        obtain ⟨n1, n2, _⟩ := okNm_all n0
        have hf' : (C.nm q.2.1)[n]? = some f := by rw [hnm]; exact hf
        exact (pe_xf (X := X0) ok.xf (T.noN f (List.mem_of_getElem? hf')) hz hdat (pe_var (i := i) (by rw [o.N]; exact hi) v1 n1 n2) (by rfl)).run pins s σ H Q I ⟨_, s1, rfl, rfl, dd, _, y, rfl, hdd, zip_at T.nsl.2.2.2.2 hf' hy, h.val R ry⟩
    · exact h.elim
  · exact h.elim
end
end OL
end
section
set_option Elab.async false
set_option linter.all false
set_option maxRecDepth 100000
/-! OL, part k: tests, displays, argument lists, built-in calls, targets. -/
namespace OL
open PySem PySem.Spec PyProof.Rows L2
section
variable {X : Cx} {g : G} {C : RC} {cf : CF} {W : WX} {k : Bool}
/-! ### tests -/
/-- the test of an expression -/
abbrev evT (cf : CF) (t : E) : Env → Sto → Res Bool := fun en μ => (evE cf t en μ).bind trR
theorem oneS {α β : Type} {rel : Rl α β} {ra : Env → Sto → Res PV} {ka : Bool} {f : PV → Sto → Res α} {M π : List Addr} {ow : List Addr} {H : Hp} {en : Env} {σ : L2.St} {μ : Sto} {Q : β → Hp → Prop} {Q' : VK}
    (R : RA C M π ow H en σ μ) (h : post C W rel ow en σ M π H ((ra en μ).bind f) Q) (hq : ∀ v μ1 π1 M1 x H1, RA C M1 π1 ow H1 en σ μ1 → St M π H M1 π1 H1 → RK ka C M1 π1 H1 v x → post C W rel ow en σ M1 π1 H1 (f v μ1) Q → Q' x H1) : tE C W ka ra σ H Q' := by
  refine (tR_bind (rel := RKr ka) R h).mono fun x H1 ⟨v, μ1, π1, M1, R1, s1, r, hp⟩ => hq v μ1 π1 M1 x H1 R1 s1 r hp
theorem tT_of {r : Env → Sto → Res Bool} {M π : List Addr} {ow : List Addr} {H : Hp} {en : Env} {σ : L2.St} {μ : Sto} {Q : Bool → Hp → Prop} (R : RA C M π ow H en σ μ) (h : post C W RB ow en σ M π H (r en μ) Q) : tT C W r σ H Q := ⟨en, μ, π, M, ow, R, h⟩
theorem tru_fin {M π : List Addr} {ow : List Addr} {H : Hp} {en : Env} {σ : L2.St} {μ : Sto} {v : PV} {x : V} {Q : Bool → Hp → Prop} (hK : C.K = X.K) (R : RA C M π ow H en σ μ) (r : RW C M π H v x)
    (h : post C W RB ow en σ M π H (trR v μ) Q) : ∃ b, truth μ v = some b ∧ TruV X.K x H b ∧ Q b H := by
  unfold trR at h
  obtain ⟨b, e, h⟩ := opt_inv h
  exact ⟨b, e, tru_rv hK R r e, h.ok R rfl⟩
theorem pt_gen (o : GOk X g C cf W) {t : E} {e : Expr} (h : PE X e (tE C W false (evE cf t))) (he : ∀ whole, isTrue e X.env whole = (do let v ← whole; standAt e.pos; holding [v] (truthy v))) : PT X e (tT C W (evT cf t)) := by
  refine (pt_truth h he).imp fun σ H Q h => ?_
  obtain ⟨en, μ, π, M, ow, R, h⟩ := h
  refine one R h fun v μ1 π1 M1 x H1 R1 r hp => ?_
  obtain ⟨b, _, h1, h2⟩ := tru_fin o.K R1 (r.rw R1.sub) hp
  exact ⟨b, h1, h2⟩
/-- a test, then the rest -/
theorem oneT {α β : Type} {rel : Rl α β} {ra : Env → Sto → Res Bool} {f : Bool → Sto → Res α} {M π : List Addr} {ow : List Addr} {H : Hp} {en : Env} {σ : L2.St} {μ : Sto} {Q : β → Hp → Prop} {Q' : Bool → Hp → Prop}
    (R : RA C M π ow H en σ μ) (h : post C W rel ow en σ M π H ((ra en μ).bind f) Q) (hq : ∀ v μ1 π1 M1 H1, RA C M1 π1 ow H1 en σ μ1 → post C W rel ow en σ M1 π1 H1 (f v μ1) Q → Q' v H1) : tT C W ra σ H Q' := by
  refine (tR_bind (rel := RB) R h).mono fun x H1 ⟨v, μ1, π1, M1, R1, _, r, hp⟩ => ?_
  cases r
  exact hq _ μ1 π1 M1 H1 R1 hp
theorem bind_assoc {α β γ : Type} (r : Res α) (f : α → Sto → Res β) (h : β → Sto → Res γ) : (r.bind f).bind h = r.bind fun a μ => (f a μ).bind h := by
  cases r <;> rfl
theorem trR_ok {v : PV} {μ : Sto} {b : Bool} (h : truth μ v = some b) : trR v μ = .ok b μ := by
  unfold trR
  rw [h]
  rfl
theorem tr_pass {α : Type} (v : PV) (μ : Sto) (f : Bool → Res α) : ((trR v μ).bind fun t μ => if t = true then f t else f false) = ((trR v μ).bind fun t _ => f t) := by
  unfold trR
  cases truth μ v with
  | none => rfl
  | some b => cases b <;> rfl
theorem evT_and (a b : E) (en : Env) (μ : Sto) : evT cf (.and a b) en μ = (evT cf a en μ).bind fun t μ => if t = true then evT cf b en μ else .ok false μ := by
  unfold evT
  simp only [evE]
  rw [bind_assoc, bind_assoc]
  congr 1
  funext x μ
  unfold trR
  cases e : truth μ x with
  | none => rfl
  | some c =>
    cases c with
    | true => rfl
    | false => simp [Res.bind, Res.opt, e]
theorem evT_or (a b : E) (en : Env) (μ : Sto) : evT cf (.or a b) en μ = (evT cf a en μ).bind fun t μ => if t = true then .ok true μ else evT cf b en μ := by
  unfold evT
  simp only [evE]
  rw [bind_assoc, bind_assoc]
  congr 1
  funext x μ
  unfold trR
  cases e : truth μ x with
  | none => rfl
  | some c =>
    cases c with
    | false => rfl
    | true => simp [Res.bind, Res.opt, e]
theorem evT_not (a : E) (en : Env) (μ : Sto) : evT cf (.not a) en μ = (evT cf a en μ).bind fun t μ => .ok (!t) μ := by
  unfold evT
  simp only [evE]
  rw [bind_assoc, bind_assoc]
  congr 1
  funext x μ
  unfold trR
  cases e : truth μ x with
  | none => rfl
  | some c => rfl
theorem pw_of {op : BoolOp} {es : List Expr} {pos : Pos} {t : TT} (h : PT X (.BoolOp op es pos) t) : PW X (.BoolOp op es pos) t := ⟨fun whole pins s σ H Q I hw => by
  have e : ∀ w, PySem.isTrue (.BoolOp op es pos) X.env w = allTrue op es X.env := fun w => by simp only [PySem.isTrue]
  have q := h.run pins s σ H Q I hw
  rw [e] at q ⊢
  exact q⟩
theorem andT_ok {a b : E} {ea eb : Expr} {es : List Expr} {pos : Pos} (ha : PT X ea (tT C W (evT cf a))) (hb : PW X (.BoolOp .And (eb :: es) pos) (tT C W (evT cf b))) : PT X (.BoolOp .And (ea :: eb :: es) pos) (tT C W (evT cf (.and a b))) := by
  refine (pw_and ha hb).pt.imp fun σ H Q h => ?_
  obtain ⟨en, μ, π, M, ow, R, h⟩ := h
  rw [evT_and] at h
  refine oneT R h fun c μ1 π1 M1 H1 R1 hp => ?_
  cases c with
  | true => exact tT_of R1 hp
  | false => exact hp.ok R1 rfl
theorem orT_ok {a b : E} {ea eb : Expr} {es : List Expr} {pos : Pos} (ha : PT X ea (tT C W (evT cf a))) (hb : PW X (.BoolOp .Or (eb :: es) pos) (tT C W (evT cf b))) : PT X (.BoolOp .Or (ea :: eb :: es) pos) (tT C W (evT cf (.or a b))) := by
  refine (pw_or ha hb).pt.imp fun σ H Q h => ?_
  obtain ⟨en, μ, π, M, ow, R, h⟩ := h
  rw [evT_or] at h
  refine oneT R h fun c μ1 π1 M1 H1 R1 hp => ?_
  cases c with
  | false => exact tT_of R1 hp
  | true => exact hp.ok R1 rfl
theorem notT_ok {a : E} {ea : Expr} {pos : Pos} (ha : PT X ea (tT C W (evT cf a))) : PT X (.UnaryOp .Not ea pos) (tT C W (evT cf (.not a))) := by
  refine (pt_not ha).imp fun σ H Q h => ?_
  obtain ⟨en, μ, π, M, ow, R, h⟩ := h
  rw [evT_not] at h
  exact oneT R h fun c μ1 π1 M1 H1 R1 hp => hp.ok R1 rfl
theorem ife_ok {c a b : E} {ec ea eb : Expr} {pos : Pos} (hc : PT X ec (tT C W (evT cf c))) (ha : PE X ea (tE C W k (evE cf a))) (hb : PE X eb (tE C W k (evE cf b))) : PE X (.IfExp ec ea eb pos) (tE C W k (evE cf (.ife c a b))) := by
  refine (pe_ifExp hc ha hb).imp fun σ H Q h => ?_
  obtain ⟨en, μ, π, M, ow, R, h⟩ := h
  have e : evE cf (.ife c a b) en μ = (evT cf c en μ).bind fun t μ => if t = true then evE cf a en μ else evE cf b en μ := by
    unfold evT
    rw [evE, bind_assoc]
  rw [e] at h
  refine oneT R h fun c μ1 π1 M1 H1 R1 hp => ?_
  cases c with
  | true => exact tE_of R1 hp
  | false => exact tE_of R1 hp
/-! ### comparisons as tests -/
theorem cmp_bl {p : Cop} {x y : PV} {μ : Sto} {v : PV} {μ' : Sto} (h : cmpR p x y μ = .ok v μ') : ∃ b, v = .bl b := by
  unfold cmpR at h
  cases e : cmpOp p x y μ with
  | none => rw [e] at h; cases h
  | some b => rw [e] at h; cases h; exact ⟨b, rfl⟩
theorem tr_bl {M π : List Addr} {ow : List Addr} {H : Hp} {en : Env} {σ : L2.St} {μ : Sto} {o : Option Bool} {Q : Bool → Hp → Prop} (R : RA C M π ow H en σ μ)
    (h : post C W RB ow en σ M π H ((Res.opt (o.map PV.bl) μ).bind trR) Q) : post C W (RKr false) ow en σ M π H (Res.opt (o.map PV.bl) μ) fun x H' => ∃ c, x = .bl c ∧ Q c H' := by
  cases o with
  | none => exact h
  | some b =>
    have h1 : post C W RB ow en σ M π H (.ok b μ) Q := h
    exact fun u H' π' M' R' s r => ⟨b, rv_bl (show RW C M' π' H' (.bl b) u from r), h1 b H' π' M' R' s rfl⟩
theorem cmpT_ok (o : GOk X g C cf W) {p : Cop} {a b : E} {ea eb : Expr} {pos : Pos} (ha : PE X ea (tE C W false (evE cf a))) (hb : PE X eb (tE C W false (evE cf b))) (hm : behindInMarks (copM p) eb = false) : PT X (.Compare ea [copM p] [eb] pos) (tT C W (evT cf (.cmp p a b))) := by
  have hu := o.un
  refine (pt_cmpR (op_cmp (W := W) (k := false) o.K (by omega) p) ha hb hm).imp fun σ H Q h => ?_
  obtain ⟨en, μ, π, M, ow, R, h⟩ := h
  have e : evT cf (.cmp p a b) en μ = (evE cf a en μ).bind fun x μ => (evE cf b en μ).bind fun y μ => (cmpR p x y μ).bind trR := by
    unfold evT
    rw [evE, bind_assoc]
    congr 1
    funext x μ
    rw [bind_assoc]
    rfl
  rw [e] at h
  refine one R h fun x μ1 π1 M1 u H1 R1 r hp => ?_
  refine (tR_bind (rel := RKr false) R1 hp).mono fun w H2 ⟨y, μ2, π2, M2, R2, s2, r2, hp2⟩ => ?_
  exact ⟨en, σ, μ2, π2, M2, ow, x, y, R2, RW.st s2 R1.sub R2.sub (r.rw R1.sub), r2.rw R2.sub, tr_bl R2 hp2⟩
/-- a op b op c -/
theorem chn_ok (o : GOk X g C cf W) {p q : Cop} {a b c : E} {ea eb ec : Expr} {pos : Pos} (ha : PE X ea (tE C W false (evE cf a))) (hb : PE X eb (tE C W false (evE cf b))) (hc : PE X ec (tE C W false (evE cf c))) (hm : lastMarks [copM p, copM q] [eb, ec] = false) :
    PE X (.Compare ea [copM p, copM q] [eb, ec] pos) (tE C W k (evE cf (.chn p q a b c))) := by
  have hu := o.un
  refine (pe_chain (op_cmp (W := W) (k := false) o.K (by omega) p) (op_cmp (W := W) (k := k) o.K (by omega) q) ha hb hc hm).imp fun σ H Q h => ?_
  obtain ⟨en, μ, π, M, ow, R, h⟩ := h
  rw [evE] at h
  refine one R h fun x μ1 π1 M1 u H1 R1 r hp => ?_
  refine (tR_bind (rel := RKr false) R1 hp).mono fun w H2 ⟨y, μ2, π2, M2, R2, s2, r2, hp2⟩ => ?_
  have r1 := RW.st s2 R1.sub R2.sub (r.rw R1.sub)
  refine ⟨en, σ, μ2, π2, M2, ow, x, y, R2, r1, r2.rw R2.sub, ?_⟩
  unfold cmpR
  cases e : cmpOp p x y μ2 with
  | none => rw [e] at hp2; exact hp2.elim
  | some t =>
    rw [e] at hp2
    intro z H3 π3 M3 R3 s3 r3
    refine ⟨t, rv_bl (show RW C M3 π3 H3 (.bl t) z from r3), ?_⟩
    cases t with
    | false =>
      have h3 := post.later R2.sub s3 hp2
      exact h3.val R3 (by unfold RV; rfl)
    | true =>
      have h3 := post.later R2.sub s3 hp2
      refine oneS R3 h3 fun y2 μ4 π4 M4 u4 H4 R4 s4 r4 hp4 => ?_
      exact ⟨en, σ, μ4, π4, M4, ow, y, y2, R4, RW.st s4 R3.sub R4.sub (RW.st s3 R2.sub R3.sub (r2.rw R2.sub)), r4.rw R4.sub, hp4⟩
/-- a op b op c as a test -/
theorem chnT_ok (o : GOk X g C cf W) {p q : Cop} {a b c : E} {ea eb ec : Expr} {pos : Pos} (ha : PE X ea (tE C W false (evE cf a))) (hb : PE X eb (tE C W false (evE cf b))) (hc : PE X ec (tE C W false (evE cf c))) (hm : lastMarks [copM p, copM q] [eb, ec] = false) :
    PT X (.Compare ea [copM p, copM q] [eb, ec] pos) (tT C W (evT cf (.chn p q a b c))) := by
  have hu := o.un
  refine (pt_chain (op_cmp (W := W) (k := false) o.K (by omega) p) (op_cmp (W := W) (k := false) o.K (by omega) q) ha hb hc hm).imp fun σ H Q h => ?_
  obtain ⟨en, μ, π, M, ow, R, h⟩ := h
  have e : evT cf (.chn p q a b c) en μ = (evE cf a en μ).bind fun x μ => (evE cf b en μ).bind fun y μ => (Res.opt (cmpOp p x y μ) μ).bind fun t μ =>
      if t = true then (evE cf c en μ).bind fun z μ => (Res.opt ((cmpOp q y z μ).map .bl) μ).bind trR else .ok false μ := by
    unfold evT
    rw [evE, bind_assoc]
    congr 1
    funext x μ
    rw [bind_assoc]
    congr 1
    funext y μ
    rw [bind_assoc]
    congr 1
    funext t μ
    cases t with
    | true => simp only [if_true]; rw [bind_assoc]
    | false => rfl
  rw [e] at h
  refine one R h fun x μ1 π1 M1 u H1 R1 r hp => ?_
  refine (tR_bind (rel := RKr false) R1 hp).mono fun w H2 ⟨y, μ2, π2, M2, R2, s2, r2, hp2⟩ => ?_
  have r1 := RW.st s2 R1.sub R2.sub (r.rw R1.sub)
  refine ⟨en, σ, μ2, π2, M2, ow, x, y, R2, r1, r2.rw R2.sub, ?_⟩
  unfold cmpR
  cases e : cmpOp p x y μ2 with
  | none => rw [e] at hp2; exact hp2.elim
  | some t =>
    rw [e] at hp2
    intro z H3 π3 M3 R3 s3 r3
    refine ⟨t, rv_bl (show RW C M3 π3 H3 (.bl t) z from r3), ?_⟩
    cases t with
    | false =>
      have h3 := post.later R2.sub s3 hp2
      exact ⟨false, rfl, h3.ok R3 rfl⟩
    | true =>
      have h3 := post.later R2.sub s3 hp2
      refine oneS R3 h3 fun y2 μ4 π4 M4 u4 H4 R4 s4 r4 hp4 => ?_
      exact ⟨en, σ, μ4, π4, M4, ow, y, y2, R4, RW.st s4 R3.sub R4.sub (RW.st s3 R2.sub R3.sub (r2.rw R2.sub)), r4.rw R4.sub, tr_bl R4 hp4⟩

/-! ### argument lists, displays -/
theorem pa_nilOk : PA X [] (tLk C W k (evEs cf [])) := by
  refine pa_nil.imp fun σ H Q h => ?_
  obtain ⟨en, μ, π, M, ow, R, h⟩ := h
  rw [evEs] at h
  exact h.ok R RKs.nil
theorem RKs.st {M π M' π' : List Addr} {H H' : Hp} (s : St M π H M' π' H') (hs : ∀ a ∈ π, a ∈ M) (hs' : ∀ a ∈ π', a ∈ M') {k : Bool} {l : List PV} {xs : List V} (h : RKs k C M π H l xs) : RKs k C M' π' H' l xs := by
  cases k with
  | true => exact RVs.st s hs h
  | false => exact RWs.st s hs hs' h
theorem pa_consOk {e : E} {r : List E} {ee : Expr} {er : List Expr} (h1 : PE X ee (tE C W k (evE cf e))) (h2 : PA X er (tLk C W k (evEs cf r))) (hs : starEach (ee :: er) X.env = (false, eval ee X.env) :: starEach er X.env) : PA X (ee :: er) (tLk C W k (evEs cf (e :: r))) := by
  refine (pa_cons h1 h2 hs).imp fun σ H Q h => ?_
  obtain ⟨en, μ, π, M, ow, R, h⟩ := h
  rw [evEs] at h
  refine oneS R h fun v μ1 π1 M1 x H1 R1 s1 r1 hp => ?_
  refine (tR_bind (rel := fun _ _ _ => RKs k) R1 hp).mono fun xs H2 ⟨vs, μ2, π2, M2, R2, s2, r2, hp2⟩ => ?_
  exact hp2.ok R2 (RKs.cons (RK.st s2 R1.sub R2.sub r1) r2)
/-- a list of values, then the rest -/
theorem oneL {α β : Type} {rel : Rl α β} {ra : Env → Sto → Res (List PV)} {ka : Bool} {f : List PV → Sto → Res α} {M π : List Addr} {ow : List Addr} {H : Hp} {en : Env} {σ : L2.St} {μ : Sto} {Q : β → Hp → Prop} {Q' : List V → Hp → Prop}
    (R : RA C M π ow H en σ μ) (h : post C W rel ow en σ M π H ((ra en μ).bind f) Q) (hq : ∀ v μ1 π1 M1 x H1, RA C M1 π1 ow H1 en σ μ1 → St M π H M1 π1 H1 → RKs ka C M1 π1 H1 v x → post C W rel ow en σ M1 π1 H1 (f v μ1) Q → Q' x H1) : tLk C W ka ra σ H Q' := by
  refine (tR_bind (rel := fun _ _ _ => RKs ka) R h).mono fun x H1 ⟨v, μ1, π1, M1, R1, s1, r, hp⟩ => hq v μ1 π1 M1 x H1 R1 s1 r hp
theorem tup_ok {l : List E} {es : List Expr} {x1 : Nat} {pos : Pos} (h : PA X es (tLk C W true (evEs cf l))) : PE X (.Tuple es x1 pos) (tE C W k (evE cf (.tup l))) := by
  refine (pe_tup h).imp fun σ H Q h => ?_
  obtain ⟨en, μ, π, M, ow, R, h⟩ := h
  rw [evE] at h
  refine oneL R h fun vs μ1 π1 M1 xs H1 R1 _ r hp => ?_
  split at hp
  · rename_i hz
    have r : RVs C M1 π1 H1 vs xs := r
    rw [szl, r.length] at hz
    exact ⟨hz, fun p hn => hp.valN R1 hn (rv_new hn R1 r)⟩
  · exact hp.elim
theorem lst_ok {rl : Rl PV V} (nw : NewOk C W rl) {l : List E} {es : List Expr} {pos : Pos} (h : PA X es (tLk C W true (evEs cf l))) : PE X (.List es pos) (tR C W rl (evE cf (.lst l))) := by
  refine (pe_lst h).imp fun σ H Q h => ?_
  obtain ⟨en, μ, π, M, ow, R, h⟩ := h
  rw [evE] at h
  refine oneL R h fun vs μ1 π1 M1 xs H1 R1 _ r hp => ?_
  split at hp
  · rename_i hz
    have r : RVs C M1 π1 H1 vs xs := r
    rw [szl, r.length] at hz
    exact ⟨hz, fun p hn => nw.lst R1 hn r hp⟩
  · exact hp.elim
/-! ### slices -/
def tO (C : RC) (W : WX) (r : Env → Sto → Res (Option Int)) : TO := tR C W (fun _ _ _ _ _ _ _ a b => a = b) r
theorem po_noneOk : PO X none (tO C W (evO cf none)) := ⟨fun pins s σ H Q I h => by
  refine po_none.run pins s σ H Q I ?_
  obtain ⟨en, μ, π, M, ow, R, h⟩ := h
  rw [evO] at h
  exact h.ok R rfl⟩
theorem po_someOk {e : E} {ee : Expr} (h : PE X ee (tE C W false (evE cf e))) : PO X (some ee) (tO C W (evO cf (some e))) := ⟨fun pins s σ H Q I hw => by
  refine (po_some h).run pins s σ H Q I ?_
  obtain ⟨en, μ, π, M, ow, R, hw⟩ := hw
  rw [evO] at hw
  refine one R hw fun v μ1 π1 M1 x H1 R1 r hp => ?_
  split at hp
  · exact ⟨_, rv_int (r.rw R1.sub), hp.ok R1 rfl⟩
  · exact hp.elim⟩
theorem slc_ok (o : GOk X g C cf W) {a : E} {lo hi : Option E} {ea : Expr} {el eh : Option Expr} {p2 pos : Pos} (ha : PE X ea (tE C W false (evE cf a))) (hl : PO X el (tO C W (evO cf lo))) (hh : PO X eh (tO C W (evO cf hi))) :
    PE X (.Subscript ea (.Slice el eh none p2) pos) (tE C W k (evE cf (.slc a lo hi))) := by
  refine (pe_slice (sl_all (W := W) (k := k) o.K) ha hl hh).imp fun σ H Q h => ?_
  obtain ⟨en, μ, π, M, ow, R, h⟩ := h
  rw [evE] at h
  refine oneS R h fun x μ1 π1 M1 u H1 R1 s1 r1 hp => ?_
  refine (tR_bind (rel := fun _ _ _ _ _ _ _ a b => a = b) R1 hp).mono fun i H2 ⟨i', μ2, π2, M2, R2, s2, e2, hp2⟩ => ?_
  refine (tR_bind (rel := fun _ _ _ _ _ _ _ a b => a = b) R2 hp2).mono fun j H3 ⟨j', μ3, π3, M3, R3, s3, e3, hp3⟩ => ?_
  cases e2
  cases e3
  exact ⟨en, σ, μ3, π3, M3, ow, x, R3, RW.st s3 R2.sub R3.sub (RW.st s2 R1.sub R2.sub (r1.rw R1.sub)), hp3⟩
/-! ### built-in calls -/
theorem bltR_ok {b : Bi} {rl : Rl PV V} {l : List E} {e : Expr} (h : PE X e (tCB (rN C W rl (bltM b)) (tLk C W false (evEs cf l)))) : PE X e (tR C W rl (evE cf (.blt b l))) := by
  refine h.imp fun σ H Q h => ?_
  obtain ⟨en, μ, π, M, ow, R, h⟩ := h
  rw [evE] at h
  exact oneL R h fun vs μ1 π1 M1 xs H1 R1 _ r hp => ⟨en, σ, μ1, π1, M1, ow, vs, R1, r, hp⟩
/-! ### isinstance -/
def tyNm : Ty → String
  | .int => "int" | .bool => "bool" | .str => "str" | .tup => "tuple" | .lst => "list" | .cls _ => ""
theorem ty_rv (hK : C.K = X.K) {M π : List Addr} {ow : List Addr} {H : Hp} {en : Env} {σ : L2.St} {μ : Sto} {v : PV} {x : V} {t : Ty} {b : Bool} (ht : ∀ c, t ≠ .cls c) (R : RA C M π ow H en σ μ) (r : RW C M π H v x) (h : tyOf μ v t = some b) :
    ∃ tv, TyX X.K H x tv ∧ PySem.W.kitOne X.K tv (.type (tyNm t)) = some b := by
  have fin : ∀ {n : String}, kitB n (tyNm t) = some b → PySem.W.kitOne X.K (.type n) (.type (tyNm t)) = some b := fun h => kit_ty h
  have lst : ∀ {a : Addr} {xs : List V}, H a = some (.lst xs) → some (t == .lst) = some b → ∃ tv, TyX X.K H (.ref a) tv ∧ PySem.W.kitOne X.K tv (.type (tyNm t)) = some b := fun e hb => by
    refine ⟨_, .base (.lst e), fin ?_⟩
    cases hb
    cases t <;> first | decide +kernel | exact absurd rfl (ht _)
  have dct : ∀ {a : Addr} {xs : List (Key × V)}, H a = some (.dK xs) → some false = some b → ∃ tv, TyX X.K H (.ref a) tv ∧ PySem.W.kitOne X.K tv (.type (tyNm t)) = some b := fun e hb => by
    refine ⟨_, .base (.dK e), fin ?_⟩
    cases hb
    cases t <;> first | decide +kernel | exact absurd rfl (ht _)
  unfold tyOf at h
  split at h
  · have e : x = .non := r
    subst e
    refine ⟨_, .base .non, fin ?_⟩
    cases h
    cases t <;> first | decide +kernel | exact absurd rfl (ht _)
  · have e := rv_bl r
    subst e
    refine ⟨_, .base (.bl _), fin ?_⟩
    cases h
    cases t <;> first | decide +kernel | exact absurd rfl (ht _)
  · have e := rv_int r
    subst e
    refine ⟨_, .base (.int _), fin ?_⟩
    cases h
    cases t <;> first | decide +kernel | exact absurd rfl (ht _)
  · have e := rv_str r
    subst e
    refine ⟨_, .base (.str _), fin ?_⟩
    cases h
    cases t <;> first | decide +kernel | exact absurd rfl (ht _)
  · obtain ⟨a, xs, rfl, q, _⟩ := rv_tup r
    have tx : TyX X.K H (.ref a) (.type "tuple") := by
      rw [hK] at q
      rcases q with (q | ⟨ob, q⟩) | ⟨ob, its, n, q, c, _⟩
      · exact .base (.tup q)
      · exact .fTuple q
      · exact .kTuple q c
    refine ⟨_, tx, fin ?_⟩
    cases h
    cases t <;> first | decide +kernel | exact absurd rfl (ht _)
  · obtain ⟨a, xs, rfl, _, q, _⟩ := rv_lv r
    exact lst q h
  · obtain ⟨a, xs, rfl, _, q, hl, _⟩ := r
    exact dct q h
  · split at h
    · rename_i hl
      obtain ⟨a, xs, rfl, q, _⟩ := R.lst hl r
      exact lst q h
    · rename_i hd
      obtain ⟨a, xs, rfl, q, _⟩ := R.dct hd r
      exact dct q h
    · cases h
  · cases h
theorem isi_ok (o : GOk X g C cf W) {a : E} {t : Ty} {ea : Expr} {x y : Str} {p p2 pos : Pos} (ht : ∀ c, t ≠ .cls c) (hx : x = "isinstance") (hb : bltB g x = true) (hy : y = Str.ofString (tyNm t)) (hby : bltB g y = true) (ha : PE X ea (tE C W false (evE cf a)))
    (hs : ∀ r, starEach (ea :: r) X.env = (false, eval ea X.env) :: starEach r X.env) : PE X (.Call (.Name x p) [ea, .Name y p2] [] pos) (tE C W k (evE cf (.isi a t))) := by
  obtain ⟨g1, g2, g3⟩ := blt_of o hb
  obtain ⟨g4, g5, g6⟩ := blt_of o hby
  have bt : bootBuiltins y = some (.type (tyNm t)) := by
    subst hy
    cases t <;> first | decide +kernel | exact absurd rfl (ht _)
  have b1 : bootBuiltins x = some (.builtin "isinstance") := by subst hx; decide +kernel
  have py : PE X (.Name y p2) (tC (.ty (tyNm t))) := pe_bltn g4 g6 bt rfl (okNm_all g5).2.2 (okNm_all g5).1
  refine (pe_callB call_isi g1 g3 b1 (pa_cons ha (pa_cons py pa_nil (by rfl)) (hs _)) (okNm_all g2).2.2 (okNm_all g2).1 (hs _) (by rfl)).imp fun σ H Q h => ?_
  obtain ⟨en, μ, π, M, ow, R, h⟩ := h
  rw [evE] at h
  refine one R h fun v μ1 π1 M1 u H1 R1 r hp => ?_
  show rIsi X.K [u, .ty (tyNm t)] H1 Q
  cases e : tyOf μ1 v t with
  | none => rw [e] at hp; exact hp.elim
  | some b =>
    rw [e] at hp
    obtain ⟨tv, h1, h2⟩ := ty_rv o.K ht R1 (r.rw R1.sub) e
    exact ⟨u, .ty (tyNm t), tv, .type (tyNm t), b, rfl, .ty _, h1, h2, hp.val R1 (by unfold RV; rfl)⟩
/-! ### d.get(k, x) -/
theorem isD_of {M π : List Addr} {H : Hp} {ks : List Ky} {vs : List PV} {x : V} (r : RW C M π H (.dv ks vs) x) : ∃ (a : Addr) (xs : List V), x = .ref a ∧ a ∉ π ∧ H a = some (.dK (ks.zip xs)) ∧ ks.length = xs.length ∧ RVs C M π H vs xs := r
theorem get_ok (o : GOk X g C cf W) {a b c : E} {ea eb ec : Expr} {ap pos : Pos} (ha : PE X ea (tE C W false (evE cf a))) (hb : PE X eb (tE C W true (evE cf b))) (hc : PE X ec (tE C W true (evE cf c))) (m : M2 X ea "get" ap eb ec pos) :
    PE X (.Call (.Attribute ea "get" ap) [eb, ec] [] pos) (tE C W k (evE cf (.met .get a [b, c]))) := by
  have hu := o.un
  refine (pe_dget2 (by omega) ha hb hc m).imp fun σ H Q h => ?_
  obtain ⟨en, μ, π, M, ow, R, h⟩ := h
  rw [evE] at h
  refine oneS R h fun v μ1 π1 M1 u H1 R1 s1 r1 hp => ?_
  have e : evEs cf [b, c] en μ1 = (evE cf b en μ1).bind fun y μ => (evE cf c en μ).bind fun z μ => .ok [y, z] μ := by
    rw [evEs]
    congr 1
    funext y μ
    rw [evEs, bind_assoc]
    congr 1
  rw [e, bind_assoc] at hp
  cases v with
  | dv ks vs =>
    have hp := (if_pos (show metOk .get (.dv ks vs) = true from rfl)) ▸ hp
    obtain ⟨d, xs, rfl, nd, hd, hl, rv⟩ := isD_of (r1.rw R1.sub)
    refine ⟨d, rfl, .inl ⟨_, .of hd⟩, ?_⟩
    refine oneS (ka := true) R1 hp fun y μ2 π2 M2 u2 H2 R2 s2 r2 hp2 => ?_
    rw [bind_assoc] at hp2
    refine oneS (ka := true) R2 hp2 fun z μ3 π3 M3 u3 H3 R3 s3 r3 hp3 => ?_
    have st := s2.trans R1.sub s3
    obtain ⟨d', xs', e', nd', hd', hl', rv'⟩ := isD_of (RW.st st R1.sub R3.sub (r1.rw R1.sub))
    cases e'
    have hp3 : post C W (RKr k) ow en σ M3 π3 H3 (Res.opt ((keyOf y).map fun k => (lookK ks vs k).getD z) μ3) Q := hp3
    cases ek : keyOf y with
    | none => rw [ek] at hp3; exact hp3.elim
    | some j =>
      have hp3 : post C W (RKr k) ow en σ M3 π3 H3 (.ok ((lookK ks vs j).getD z) μ3) Q := by
        rw [ek] at hp3
        exact hp3
      have ry : RW C M3 π3 H3 y u2 := (RV.st s3 R2.sub r2).rw R3.sub
      refine ⟨_, (dget_rv hd' hl' rv' ek ry).1, ?_⟩
      have lk := look_rv j hl' rv'
      cases el : lookK ks vs j with
      | none =>
        rw [el] at hp3
        rw [lk.2 el]
        exact hp3.val R3 r3
      | some w =>
        rw [el] at hp3
        obtain ⟨q, hq, rq⟩ := lk.1 w el
        rw [hq]
        exact hp3.val R3 rq
  | _ => exact hp.elim
end
end OL
end
section
set_option Elab.async false
set_option linter.all false
set_option maxRecDepth 100000
/-! OL, part l: targets, what is walked. -/
namespace OL
open PySem PySem.Spec PyProof.Rows L2
/-! ### slots -/
section
variable {C : RC} {W : WX} {M π M' π' : List Addr} {ow : List Addr} {H H' : Hp} {en en' : Env} {σ σ' : L2.St} {μ μ' : Sto}
theorem RA.setv (R : RA C M π ow H en σ μ) {v : PV} {x : V} (i : Nat) (r : RV C M π H v x) : RA C M π ow H (en.set i (some v)) (σ.set i (some x)) μ := by
  have nown : ∀ w, v ≠ .own w := fun w e => by subst e; unfold RV at r; exact r
  have at_ : ∀ (j : Nat) (w : PV), (en.set i (some v))[j]? = some (some (.own w)) → en[j]? = some (some (.own w)) ∧ j ≠ i := fun j w e => by
    by_cases z : i = j
    · subst z
      by_cases hl : i < en.length
      · rw [List.getElem?_set_self hl] at e
        cases e
        exact absurd rfl (nown w)
      · rw [List.getElem?_eq_none (by simpa using hl)] at e; cases e
    · rw [List.getElem?_set_ne z] at e
      exact ⟨e, fun q => z q.symm⟩
  refine ⟨by simp [R.len], fun j w e => ?_, fun j k a b u e1 e2 e3 e4 => ?_, R.sto, R.sl, R.nd, R.sub, R.a0, R.trk⟩
  · by_cases z : i = j
    · subst z
      by_cases hl : i < en.length
      · rw [List.getElem?_set_self hl] at e
        cases e
        refine ⟨x, List.getElem?_set_self (by rw [R.len]; exact hl), ?_⟩
        exact RE.of r
      · rw [List.getElem?_eq_none (by simpa using hl)] at e; cases e
    · rw [List.getElem?_set_ne z] at e
      rw [List.getElem?_set_ne z]
      exact R.ev j w e
  · obtain ⟨h1, n1⟩ := at_ j a e1
    obtain ⟨h2, n2⟩ := at_ k b e2
    rw [List.getElem?_set_ne (Ne.symm n1)] at e3
    rw [List.getElem?_set_ne (Ne.symm n2)] at e4
    exact R.inj j k a b u h1 h2 e3 e4
theorem RA.unset (R : RA C M π ow H en σ μ) (i : Nat) : RA C M π ow H (en.set i none) (σ.set i none) μ := by
  have at_ : ∀ (j : Nat) (w : PV), (en.set i none)[j]? = some (some w) → en[j]? = some (some w) ∧ j ≠ i := fun j w e => by
    by_cases z : i = j
    · subst z
      by_cases hl : i < en.length
      · rw [List.getElem?_set_self hl] at e; cases e
      · rw [List.getElem?_eq_none (by simpa using hl)] at e; cases e
    · rw [List.getElem?_set_ne z] at e
      exact ⟨e, fun q => z q.symm⟩
  refine ⟨by simp [R.len], fun j w e => ?_, fun j k a b u e1 e2 e3 e4 => ?_, R.sto, R.sl, R.nd, R.sub, R.a0, R.trk⟩
  · obtain ⟨h, n⟩ := at_ j w e
    rw [List.getElem?_set_ne (Ne.symm n)]
    exact R.ev j w h
  · obtain ⟨h1, n1⟩ := at_ j _ e1
    obtain ⟨h2, n2⟩ := at_ k _ e2
    rw [List.getElem?_set_ne (Ne.symm n1)] at e3
    rw [List.getElem?_set_ne (Ne.symm n2)] at e4
    exact R.inj j k a b u h1 h2 e3 e4
theorem RA.wipe (R : RA C M π ow H en σ μ) : ∀ vs : List Nat, RA C M π ow H (wipeE en vs) (L2.wipe σ vs) μ
  | [] => R
  | i :: vs => (R.wipe vs).unset i
/-- the slots of an earlier moment in a later one -/
theorem RA.back {ow' : List Addr} (R : RA C M π ow H en σ μ) (s : St M π H M' π' H') (R' : RA C M' π' ow' H' en' σ' μ') : RA C M' π' ow H' en σ μ' := by
  refine ⟨R.len, fun i v e => ?_, R.inj, R'.sto, R'.sl, R'.nd, R'.sub, fun a h => s.sub a (R.a0 a h), R'.trk⟩
  obtain ⟨u, e1, e2⟩ := R.ev i v e
  exact ⟨u, e1, e2.st s R.sub R.a0 R.trk fun n h => h.st s R.sub n⟩
end
/-! ### targets -/
mutual
def ckG (g : G) : Tg → Expr → Bool
  | .nm i, .Name x _ => decide (g.N[i]? = some x) && locB g x
  | .tp l, .Tuple es _ _ => !g.hot && ckGs g l es
  | _, _ => false
def ckGs (g : G) : List Tg → List Expr → Bool
  | [], [] => true
  | t :: ts, e :: es => ckG g t e && ckGs g ts es
  | _, _ => false
end
mutual
def slotsT : Tg → List Nat
  | .nm i => [i]
  | .tp l => slotsTs l
def slotsTs : List Tg → List Nat
  | [] => []
  | t :: ts => slotsT t ++ slotsTs ts
end
/-- all other slots as they were -/
def Same (vs : List Nat) (en en' : Env) (σ σ' : L2.St) : Prop := (σ'.length = σ.length ∧ ∀ j, j ∉ vs → σ'[j]? = σ[j]?) ∧ ∀ (i : Nat) (w : PV), en'[i]? = some (some (.own w)) → en[i]? = some (some (.own w)) ∧ σ'[i]? = σ[i]?
def gTg (C : RC) (t : Tg) : TG := fun v σ H Q => ∃ en μ π M ow pv en', RA C M π ow H en σ μ ∧ RV C M π H pv v ∧ assT t pv en = some en' ∧ ∀ σ', RA C M π ow H en' σ' μ → Same (slotsT t) en en' σ σ' → Q σ' H
def gTgs (C : RC) (t : List Tg) : TGs := fun v σ H Q => ∃ en μ π M ow pv en', RA C M π ow H en σ μ ∧ RVs C M π H pv v ∧ assTs t pv en = some en' ∧ ∀ σ', RA C M π ow H en' σ' μ → Same (slotsTs t) en en' σ σ' → Q σ' H
section
variable {X : Cx} {g : G} {C : RC} {cf : CF} {W : WX} {k : Bool}
theorem _root_.L2.PG.imp {e : Expr} {t t' : TG} (h : PG X e t) (i : ∀ v σ H Q, t' v σ H Q → t v σ H Q) : PG X e t' := ⟨fun pins s σ H v u Q I r w => h.run pins s σ H v u Q I r (i v σ H Q w)⟩
theorem _root_.L2.PGs.imp {e : List Expr} {t t' : TGs} (h : PGs X e t) (i : ∀ v σ H Q, t' v σ H Q → t v σ H Q) : PGs X e t' := ⟨fun pins s σ H v u Q I r w => h.run pins s σ H v u Q I r (i v σ H Q w)⟩
theorem Same.trans {a b : List Nat} {en en1 en2 : Env} {σ σ1 σ2 : L2.St} (h : Same a en en1 σ σ1) (h2 : Same b en1 en2 σ1 σ2) : Same (a ++ b) en en2 σ σ2 := ⟨⟨h2.1.1.trans h.1.1, fun j hj => by
  rw [List.mem_append, not_or] at hj
  exact (h2.1.2 j hj.2).trans (h.1.2 j hj.1)⟩, fun i w e => by
  obtain ⟨e1, e2⟩ := h2.2 i w e
  obtain ⟨e3, e4⟩ := h.2 i w e1
  exact ⟨e3, e2.trans e4⟩⟩
theorem Same.refl {a : List Nat} {en : Env} {σ : L2.St} : Same a en en σ σ := ⟨⟨rfl, fun _ _ => rfl⟩, fun _ _ e => ⟨e, rfl⟩⟩
theorem plainT {t : Tg} {e : Expr} (h : ckG g t e = true) (env : PySem.Env) (es : List Expr) : assignEach (e :: es) env = (false, assign e env) :: assignEach es env := by
  cases t <;> cases e <;> first | rfl | (unfold ckG at h; cases h)
theorem each_len : ∀ {ts : List Tg} {es : List Expr} (env : PySem.Env), ckGs g ts es = true → (assignEach es env).length = ts.length ∧ (assignEach es env).findIdx? (·.1) = none
  | [], es, env, h => by
    cases es with
    | nil => exact ⟨rfl, rfl⟩
    | cons e es => unfold ckGs at h; cases h
  | t :: ts, es, env, h => by
    cases es with
    | nil => unfold ckGs at h; cases h
    | cons e es =>
      unfold ckGs at h
      rw [Bool.and_eq_true] at h
      obtain ⟨h1, h2⟩ := each_len env h.2
      rw [plainT h.1]
      exact ⟨by simp [h1], by simp [List.findIdx?_cons, h2]⟩
mutual
theorem pg_ok (o : GOk X g C cf W) : ∀ (t : Tg) (e : Expr), ckG g t e = true → PG X e (gTg C t)
  | .nm i, e, h => by
    cases e <;> first | (unfold ckG at h; cases h; done) | skip
    rename_i x p
    unfold ckG at h
    rw [Bool.and_eq_true] at h
    obtain ⟨h1, h2⟩ := loc_of o h.2
    refine (pg_name (i := i) (by rw [o.N]; exact o.nd) (by rw [o.N]; exact of_decide_eq_true h.1) h1 h2).imp fun v σ H Q q => ?_
    obtain ⟨en, μ, π, M, ow, pv, en', R, r, e, q⟩ := q
    unfold assT at e
    split at e
    · cases e
      refine q _ (R.setv i r) ⟨⟨by simp, fun j hj => ?_⟩, fun j w e => ?_⟩
      · unfold slotsT at hj
        rw [List.getElem?_set_ne fun z => hj (by rw [z]; exact List.mem_singleton.mpr rfl)]
      · by_cases z : i = j
        · subst z
          by_cases hl : i < en.length
          · rw [List.getElem?_set_self hl] at e
            cases e
            unfold RV at r
            exact r.elim
          · rw [List.getElem?_eq_none (by simpa using hl)] at e; cases e
        · rw [List.getElem?_set_ne z] at e
          exact ⟨e, List.getElem?_set_ne z⟩
    · cases e
  | .tp l, e, h => by
    cases e <;> first | (unfold ckG at h; cases h; done) | skip
    rename_i es x1 p
    unfold ckG at h
    rw [Bool.and_eq_true, Bool.not_eq_true'] at h
    obtain ⟨h1, h2⟩ := each_len X.env h.2
    refine (pg_tup (o.calm h.1) (pgs_ok o l es h.2) h1 h2).imp fun v σ H Q q => ?_
    obtain ⟨en, μ, π, M, ow, pv, en', R, r, e, q⟩ := q
    unfold assT at e
    cases pv with
    | tup vs =>
      have e : assTs l vs en = some en' := e
      unfold RV at r
      obtain ⟨a, xs, ev, hq, rs⟩ := r
      have hl : ∀ {l : List Tg} {vs : List PV} {en : Env}, assTs l vs en = some en' → l.length = vs.length := fun {l} => by
        induction l with
        | nil => intro vs en e; cases vs <;> first | rfl | cases e
        | cons t l ih =>
          intro vs en e
          cases vs with
          | nil => cases e
          | cons v vs =>
            unfold assTs at e
            obtain ⟨en1, _, e2⟩ := Option.bind_eq_some_iff.mp e
            simp [ih e2]
      refine ⟨a, xs, ev, o.K ▸ hq, ?_, en, μ, π, M, ow, vs, en', R, rs, e, q⟩
      rw [← rs.length, hl e]
    | _ => cases e
theorem pgs_ok (o : GOk X g C cf W) : ∀ (t : List Tg) (e : List Expr), ckGs g t e = true → PGs X e (gTgs C t)
  | [], es, h => by
    cases es with
    | cons e es => unfold ckGs at h; cases h
    | nil =>
      refine pgs_nil.imp fun v σ H Q q => ?_
      obtain ⟨en, μ, π, M, ow, pv, en', R, r, e, q⟩ := q
      cases pv with
      | nil =>
        unfold RVs at r
        cases e
        exact ⟨r, q σ R .refl⟩
      | cons w pv => cases e
  | t :: ts, es, h => by
    cases es with
    | nil => unfold ckGs at h; cases h
    | cons e es =>
      unfold ckGs at h
      rw [Bool.and_eq_true] at h
      refine (pgs_cons (pg_ok o t e h.1) (pgs_ok o ts es h.2) (by rw [plainT h.1]; rfl)).imp fun v σ H Q q => ?_
      obtain ⟨en, μ, π, M, ow, pv, en', R, r, e, q⟩ := q
      cases pv with
      | nil => cases e
      | cons w pv =>
        unfold RVs at r
        obtain ⟨x, xs, rfl, r1, r2⟩ := r
        unfold assTs at e
        obtain ⟨en1, e1, e2⟩ := Option.bind_eq_some_iff.mp e
        refine ⟨x, xs, rfl, en, μ, π, M, ow, w, en1, R, r1, e1, fun σ1 R1 s1 => ?_⟩
        exact ⟨en1, μ, π, M, ow, pv, en', R1, r2, e2, fun σ2 R2 s2 => q σ2 R2 (s1.trans s2)⟩
end
/-- what the comprehension's own slots do not touch -/
theorem wipe_get {σ : L2.St} {j : Nat} : ∀ {vs : List Nat}, (L2.wipe σ vs)[j]? = if j ∈ vs then (σ[j]?).map fun _ => none else σ[j]?
  | [] => by simp [L2.wipe]
  | i :: vs => by
    unfold L2.wipe
    by_cases z : i = j
    · subst z
      rw [if_pos List.mem_cons_self]
      by_cases hl : i < σ.length
      · rw [List.getElem?_set_self (by rw [wipe_length]; exact hl), List.getElem?_eq_getElem hl]; rfl
      · rw [List.getElem?_eq_none (by simpa [wipe_length] using hl), List.getElem?_eq_none (by simpa using hl)]; rfl
    · rw [List.getElem?_set_ne z, wipe_get]
      have e : (j ∈ i :: vs) = (j ∈ vs) := by simp [Ne.symm z]
      simp only [e]
theorem wipe_same {σ σ' : L2.St} {vs ts : List Nat} {e e' : Env} (h : Same ts e e' (L2.wipe σ vs) σ') (hs : ∀ i ∈ ts, i ∈ vs) : L2.wipe σ' vs = L2.wipe σ vs := by
  apply List.ext_getElem?
  intro j
  rw [wipe_get]
  have hl : σ'.length = σ.length := by rw [h.1.1, wipe_length]
  by_cases z : j ∈ vs
  · rw [if_pos z, wipe_get, if_pos z]
    by_cases q : j < σ.length
    · rw [List.getElem?_eq_getElem q, List.getElem?_eq_getElem (by rw [hl]; exact q)]; rfl
    · rw [List.getElem?_eq_none (Nat.not_lt.mp (by rw [hl]; exact q)), List.getElem?_eq_none (Nat.not_lt.mp q)]
  · rw [if_neg z, h.1.2 j fun q => z (hs j q)]
end
section
variable {X : Cx} {g : G} {C : RC} {cf : CF} {W : WX} {k : Bool}
theorem wipe_own {en : Env} {σ : L2.St} {i : Nat} {w : PV} : ∀ {vs : List Nat}, (wipeE en vs)[i]? = some (some (.own w)) → en[i]? = some (some (.own w)) ∧ i ∉ vs
  | [], h => ⟨h, by simp⟩
  | j :: vs, h => by
    unfold wipeE at h
    by_cases z : j = i
    · subst z
      by_cases hl : j < (wipeE en vs).length
      · rw [List.getElem?_set_self hl] at h; cases h
      · rw [List.getElem?_eq_none (by simpa using hl)] at h; cases h
    · rw [List.getElem?_set_ne z] at h
      obtain ⟨h1, h2⟩ := wipe_own (σ := σ) h
      exact ⟨h1, by simp [h2, Ne.symm z]⟩
/-- behind a call: a value, or one that the def has made -/
theorem callPost {rl : Rl PV V} {f : PV → Option PV} {M π : List Addr} {ow : List Addr} {H : Hp} {en : Env} {σ : L2.St} {μ : Sto} {Q : VK} {r : Res PV} (R : RA C M π ow H en σ μ) (nw : NewOk C W rl) (hv : rl = RKr k ∨ ∀ v, f v ≠ none → ∃ w, v = .own w)
    (ho : ∀ w, f (.own w) = some w) (hf : ∀ v w, f v = some w → (∀ z, v ≠ .own z) → w = v) (hp : post C W rl ow en σ M π H (r.bind fun r μ => Res.opt (f r) μ) Q) : postF C M π H r Q (WE W σ) := by
  cases r with
  | err => exact hp.elim
  | exc c fs μ2 => exact fun cls d H2 π2 M2 R2 s2 rx => hp cls d H2 π2 M2 (R.back s2 R2) s2 rx
  | ok v μ2 =>
    rw [Res.bind_ok] at hp
    obtain ⟨w, e, hp2⟩ := opt_inv hp
    clear hp
    by_cases hw : ∃ z, v = .own z
    · obtain ⟨z, rfl⟩ := hw
      rw [ho z] at e
      cases e
      exact fun a H2 π2 M2 R2 s2 h1 h2 h3 ro => nw R (R.back s2 R2) s2 h1 h2 h3 ro hp2
    · have nz : ∀ z, v ≠ .own z := fun z e => hw ⟨z, e⟩
      have e2 := hf v w e nz
      subst e2
      rcases hv with rfl | hv
      · have key : ∀ u H2 π2 M2, RA C M2 π2 M2 H2 [] [] μ2 → St M π H M2 π2 H2 → RV C M2 π2 H2 w u → Q u H2 := fun u H2 π2 M2 R2 s2 rv => hp2 u H2 π2 M2 (R.back s2 R2) s2 (.of R2.sub rv)
        cases w with
        | own z => exact absurd rfl (nz z)
        | _ => exact key
      · obtain ⟨z, ez⟩ := hv w (by rw [e]; simp)
        exact absurd ez (nz z)
theorem RA.bare {M π ow : List Addr} {H : Hp} {en : Env} {σ : L2.St} {μ : Sto} (R1 : RA C M π ow H en σ μ) : RA C M π M H [] [] μ := ⟨rfl, fun i v e => by simp at e, fun i j v w u e => by simp at e, R1.sto, R1.sl, R1.nd, R1.sub, fun _ h => h, R1.trk⟩
def evC (cf : CF) (f : Nat) (l : List E) (b : PV → Option PV) : Env → Sto → Res PV := fun env μ => (evEs cf l env μ).bind fun vs μ => (cf.call f vs μ).bind fun r μ => Res.opt (b r) μ
theorem call_any (o : GOk X g C cf W) (hh : g.hot = false) {rl : Rl PV V} (nw : NewOk C W rl) {b : PV → Option PV} (hv : rl = RKr k ∨ ∀ v, b v ≠ none → ∃ w, v = .own w) (ho : ∀ w, b (.own w) = some w) (hb : ∀ v w, b v = some w → (∀ z, v ≠ .own z) → w = v) {x : Str} {f : Nat} {l : List E} {e : Expr} {es : List Expr} {p pos : Pos} (hf : (x, f) ∈ g.fns) (hg : glB g x = true) (ha : PA X (e :: es) (tLk C W true (evEs cf l)))
    (he : starEach (e :: es) X.env = (false, eval e X.env) :: starEach es X.env) (hpl : (backTo pos (starEach es X.env)).any (·.1) = false) :
    PE X (.Call (.Name x p) (e :: es) [] pos) (tR C W rl (evC cf f l b)) := by
  obtain ⟨g1, g2⟩ := gl_of o hg
  obtain ⟨n, fd, ps, F, hr, hk, hbd⟩ := o.call hh _ hf
  refine (pe_callF (W := W) F hr o.gd g1 (o.fns _ hf) hk hbd (fun σ => passAt o.tk σ) ha (okNm_all g2).1 he hpl).imp fun σ H Q h => ?_
  obtain ⟨en, μ, π, M, ow, R, h⟩ := h
  refine oneL R h fun vs μ1 π1 M1 xs H1 R1 s1 r hp => ?_
  exact ⟨vs, μ1, π1, M1, R1.bare, r, callPost R1 nw hv ho hb hp⟩
theorem call_any0 (o : GOk X g C cf W) (hh : g.hot = false) {rl : Rl PV V} (nw : NewOk C W rl) {b : PV → Option PV} (hv : rl = RKr k ∨ ∀ v, b v ≠ none → ∃ w, v = .own w) (ho : ∀ w, b (.own w) = some w) (hb : ∀ v w, b v = some w → (∀ z, v ≠ .own z) → w = v) {x : Str} {f : Nat} {p pos : Pos} (hf : (x, f) ∈ g.fns) (hg : glB g x = true) :
    PE X (.Call (.Name x p) [] [] pos) (tR C W rl (evC cf f [] b)) := by
  obtain ⟨g1, g2⟩ := gl_of o hg
  obtain ⟨n, fd, ps, F, hr, hk, hbd⟩ := o.call hh _ hf
  refine (pe_callF0 (W := W) F hr o.gd g1 (o.fns _ hf) hk hbd (fun σ => passAt o.tk σ) (okNm_all g2).1).imp fun σ H Q h => ?_
  obtain ⟨en, μ, π, M, ow, R, h⟩ := h
  unfold evC at h
  rw [evEs, Res.bind_ok] at h
  exact ⟨[], μ, π, M, R.bare, .nil, callPost R nw hv ho hb h⟩
theorem disown_ne {v w : PV} (h : some (disown v) = some w) (n : ∀ z, v ≠ .own z) : w = v := by
  cases h
  cases v <;> first | rfl | exact absurd rfl (n _)
theorem ev_call (cf : CF) (f : Nat) (l : List E) : evE cf (.call f l) = evC cf f l (fun r => some (disown r)) := by
  funext env μ
  rw [evE]
  rfl
theorem ev_calo (cf : CF) (f : Nat) (l : List E) : evE cf (.calo f l) = evC cf f l unown := by
  funext env μ
  rw [evE]
  rfl
theorem unown_own {v : PV} (h : unown v ≠ none) : ∃ w, v = .own w := by
  cases v <;> first | exact ⟨_, rfl⟩ | exact absurd rfl h
theorem call_ok (o : GOk X g C cf W) (hh : g.hot = false) {x : Str} {f : Nat} {l : List E} {e : Expr} {es : List Expr} {p pos : Pos} (hf : (x, f) ∈ g.fns) (hg : glB g x = true) (ha : PA X (e :: es) (tLk C W true (evEs cf l)))
    (he : starEach (e :: es) X.env = (false, eval e X.env) :: starEach es X.env) (hpl : (backTo pos (starEach es X.env)).any (·.1) = false) : PE X (.Call (.Name x p) (e :: es) [] pos) (tE C W k (evE cf (.call f l))) := by
  rw [ev_call]
  exact call_any o hh newOk_k (.inl rfl) (fun _ => rfl) (fun _ _ h n => disown_ne h n) hf hg ha he hpl
theorem call0_ok (o : GOk X g C cf W) (hh : g.hot = false) {x : Str} {f : Nat} {p pos : Pos} (hf : (x, f) ∈ g.fns) (hg : glB g x = true) : PE X (.Call (.Name x p) [] [] pos) (tE C W k (evE cf (.call f []))) := by
  rw [ev_call]
  exact call_any0 o hh newOk_k (.inl rfl) (fun _ => rfl) (fun _ _ h n => disown_ne h n) hf hg
/-- a list that the def has made and hands over -/
theorem calo_ok (o : GOk X g C cf W) (hh : g.hot = false) {rl : Rl PV V} (nw : NewOk C W rl) {x : Str} {f : Nat} {l : List E} {e : Expr} {es : List Expr} {p pos : Pos} (hf : (x, f) ∈ g.fns) (hg : glB g x = true) (ha : PA X (e :: es) (tLk C W true (evEs cf l)))
    (he : starEach (e :: es) X.env = (false, eval e X.env) :: starEach es X.env) (hpl : (backTo pos (starEach es X.env)).any (·.1) = false) : PE X (.Call (.Name x p) (e :: es) [] pos) (tR C W rl (evE cf (.calo f l))) := by
  rw [ev_calo]
  exact call_any (k := true) o hh nw (.inr fun v h => unown_own h) (fun _ => rfl) (fun v w h n => by obtain ⟨z, rfl⟩ := unown_own (v := v) (by rw [h]; simp); exact absurd rfl (n z)) hf hg ha he hpl
theorem calo0_ok (o : GOk X g C cf W) (hh : g.hot = false) {rl : Rl PV V} (nw : NewOk C W rl) {x : Str} {f : Nat} {p pos : Pos} (hf : (x, f) ∈ g.fns) (hg : glB g x = true) : PE X (.Call (.Name x p) [] [] pos) (tR C W rl (evE cf (.calo f []))) := by
  rw [ev_calo]
  exact call_any0 (k := true) o hh nw (.inr fun v h => unown_own h) (fun _ => rfl) (fun v w h n => by obtain ⟨z, rfl⟩ := unown_own (v := v) (by rw [h]; simp); exact absurd rfl (n z)) hf hg
end
end OL
end
section
set_option Elab.async false
set_option linter.all false
set_option maxRecDepth 100000
/-! OL, part m: enumerate over lists and tuples; what is walked, by values. -/
namespace PySem
open Sem (wp)
set_option maxHeartbeats 1000000 in
theorem ol_enum_new1 {v : Value} {o : Obj} {H : Heap → Prop} (B : Begins v o H) :
    Meets (Builtin.«enumerate.__new__» ⟨[.type "enumerate", v], []⟩) (fun _ R s => H s.heap ∧
      R (.ok (.ret (.ref (s.heap.push o).objs.size))) { s with heap := (s.heap.push o).push { cls := .type "enumerate", data := .fields #[.none, .bool false, .ref s.heap.objs.size, rawInt 0, .none, .none] } }) :=
  .of_wp fun prog w A R s h => by
    obtain ⟨hp, g, d, tk, os⟩ := s; obtain ⟨h1, h⟩ := h
    have hsub := sub_enumerate
    have q1 : ∀ {A' : Around} {E : Value → Shared → Prop} {Q : Value → Shared → Prop}, Q (.ref hp.objs.size) ⟨hp.push o, g, d, tk, os⟩ → wpAny (model prog w) A' (pyIter v) Q E ⟨hp, g, d, tk, os⟩ :=
      fun q => B.iter prog w _ _ ⟨hp, g, d, tk, os⟩ _ h1 q
    wp_walk using q1
    refine wpAny_stack_any fun st => wpAny_pure ?_
    split
    · rename_i c _ _ _ _ _
      cases (c == Value.type "enumerate")
      · wp_walk using q1
        exact ⟨_, rfl, h⟩
      · wp_walk using q1
        exact ⟨_, rfl, h⟩
    · wp_walk using q1
      exact ⟨_, rfl, h⟩
section
variable {prog : Program} {w : World} {A : Around} {E : Value → Shared → Prop} {s : Shared}
theorem ol_enum1 {v : Value} {o : Obj} {H : Heap → Prop} {Q : Value → Shared → Prop} (B : Begins v o H) (h1 : H s.heap)
    (h : ∀ h', IsEnum h' (s.heap.objs.size + 1) s.heap.objs.size 0 .none → h'.get? s.heap.objs.size = some o → h'.objs.size = s.heap.objs.size + 2 →
      (∀ b o, s.heap.get? b = some o → h'.get? b = some o) → Q (.ref (s.heap.objs.size + 1)) { s with heap := h' }) :
    wpAny (model prog w) A (call (.type "enumerate") [v]) Q E s := by
  refine callType_new F.called_enumerate (by decide) (F.typeCall_enumerate_1 _) (F.newCall_enumerate_1 _) (fun obj => F.args_object_init_2 obj _) F.entry_enumerate_new
    (ol_enum_new1 B) ⟨h1, ?_⟩
  have hz : (s.heap.push o).objs.size = s.heap.objs.size + 1 := Heap.size_push ..
  show _ ∧ _
  rw [hz]
  have he : IsEnum ((s.heap.push o).push { cls := .type "enumerate", data := .fields #[.none, .bool false, .ref s.heap.objs.size, rawInt 0, .none, .none] }) (s.heap.objs.size + 1) s.heap.objs.size 0 .none := by
    have := Heap.get?_push_size (s.heap.push o) (o := { cls := .type "enumerate", data := .fields #[.none, .bool false, .ref s.heap.objs.size, rawInt 0, .none, .none] }) rfl
    rw [hz] at this; exact this
  refine ⟨⟨_, he, rfl⟩, h _ he (Heap.get?_push_of_some _ (Heap.get?_push_size _ B.free)) (by rw [Heap.size_push, hz]) fun b o x => Heap.get?_push_of_some _ (Heap.get?_push_of_some _ x)⟩
end
end PySem
namespace OL
open PySem PySem.Spec PyProof.Rows L2
/-- a list (false), a tuple (true) that is read -/
def Sq2 (K : PySem.W.Frag) (t : Bool) (H : Hp) (a : Addr) (xs : List V) : Prop := if t = true then SqT K H a xs else SqL K H a xs
def IsIt (h : Heap) (t : Bool) (it a : Addr) (i : Nat) : Prop := if t = true then h.IsTupleIter it a i else h.IsListIter it a i
def IsSeq (h : Heap) (t : Bool) (a : Addr) (its : Array Value) : Prop := if t = true then h.IsTuple a its else h.IsList a its
/-- what stands at a, each item with its number in a new pair -/
def Ien (K : PySem.W.Frag) (t : Bool) (a : Addr) (k : Int) : It :=
  ⟨fun i H => ∃ (xs : List V) (x : V), Sq2 K t H a xs ∧ xs[i]? = some x, fun i H v H' => ∃ T x, v = .ref T ∧ H T = none ∧ H' = upd H T (.tup [.int (k + (i : Nat)), x]) ∧ ∀ xs, Sq2 K t H a xs → xs[i]? = some x, fun i H => ∃ xs : List V, Sq2 K t H a xs ∧ xs.length ≤ i⟩
theorem drawsSq {prog : Program} {w : World} {A : Around} (hh : A.handled = none) (t : Bool) (it l : Addr) (hne : l ≠ it) (items : Array Value) :
    Draws prog w A it [it, l] items.size (fun i v => items[i]? = some v) (fun i h => IsIt h t it l i ∧ IsSeq h t l items) := by
  cases t with
  | true => exact Draws.tuple hh it l hne items
  | false => exact Draws.list hh it l hne items
theorem Sq2.inj {X : Cx} {pins : List (Addr × Obj)} {σ : L2.St} {H : Hp} {s : Shared} {t : Bool} {a : Addr} {xs ys : List V} (I : Inv X pins σ H s) (h1 : Sq2 X.K t H a xs) (h2 : Sq2 X.K t H a ys) : xs = ys := by
  cases t with
  | true => exact I.tuple_inj h1 h2
  | false => exact I.list_inj h1 h2
theorem Sq2.at {X : Cx} {pins : List (Addr × Obj)} {σ : L2.St} {H : Hp} {s : Shared} {t : Bool} {a : Addr} {xs : List V} (I : Inv X pins σ H s) (h1 : Sq2 X.K t H a xs) : ∃ its : List Value, Vals xs its ∧ IsSeq s.heap t a its.toArray := by
  cases t with
  | true =>
    obtain ⟨its, r, p, _⟩ := I.tuple h1
    exact ⟨its, r, p⟩
  | false =>
    obtain ⟨its, r, p, _⟩ := I.list h1
    exact ⟨its, r, p.isList⟩
theorem IsIt.obj {h : Heap} {t : Bool} {it a : Addr} {i : Nat} (x : IsIt h t it a i) : ∃ o, h.get? it = some o ∧ ∀ v, o.data ≠ .cell v := by
  cases t with
  | true =>
    obtain ⟨o, ho, _, hd⟩ := (show h.IsTupleIter it a i from x)
    exact ⟨o, ho, fun v q => by rw [hd] at q; cases q⟩
  | false =>
    obtain ⟨o, ho, _, hd⟩ := (show h.IsListIter it a i from x)
    exact ⟨o, ho, fun v q => by rw [hd] at q; cases q⟩
theorem IsIt.keep {h h' : Heap} {t : Bool} {it a : Addr} {i : Nat} (x : IsIt h t it a i) (k : ∀ o, h.get? it = some o → h'.get? it = some o) : IsIt h' t it a i := by
  cases t with
  | true => exact Heap.IsTupleIter.at (show h.IsTupleIter it a i from x) k
  | false => exact Heap.IsListIter.at (show h.IsListIter it a i from x) k
theorem IsSeq.ne {h : Heap} {t u : Bool} {a it b : Addr} {i : Nat} {its : Array Value} (x : IsSeq h t a its) (y : IsIt h u it b i) : a ≠ it := by
  rintro rfl
  cases t <;> cases u
  · obtain ⟨o, ho, hc, _⟩ := (show h.IsList a its from x)
    obtain ⟨o', ho', hc', _⟩ := (show h.IsListIter a b i from y)
    rw [ho] at ho'; cases ho'; rw [hc] at hc'; exact absurd hc' (by decide)
  · obtain ⟨o, ho, hc, _⟩ := (show h.IsList a its from x)
    obtain ⟨o', ho', hc', _⟩ := (show h.IsTupleIter a b i from y)
    rw [ho] at ho'; cases ho'; rw [hc] at hc'; exact absurd hc' (by decide)
  · obtain ⟨o, ho, hc, _⟩ := (show h.IsTuple a its from x)
    obtain ⟨o', ho', hc', _⟩ := (show h.IsListIter a b i from y)
    rw [ho] at ho'; cases ho'; rw [hc] at hc'; exact absurd hc' (by decide)
  · obtain ⟨o, ho, hc, _⟩ := (show h.IsTuple a its from x)
    obtain ⟨o', ho', hc', _⟩ := (show h.IsTupleIter a b i from y)
    rw [ho] at ho'; cases ho'; rw [hc] at hc'; exact absurd hc' (by decide)
theorem IsSeq.ne2 {h : Heap} {t : Bool} {a e it : Addr} {its : Array Value} {c : Int} {old : Value} (x : IsSeq h t a its) (y : IsEnum h e it c old) : a ≠ e := by
  rintro rfl
  have y' : h.get? a = some _ := y
  cases t
  · obtain ⟨o, ho, hc, _⟩ := (show h.IsList a its from x)
    rw [ho] at y'; cases y'; exact absurd (show Value.type "enumerate" = Value.type "list" from hc) (by decide)
  · obtain ⟨o, ho, hc, _⟩ := (show h.IsTuple a its from x)
    rw [ho] at y'; cases y'; exact absurd (show Value.type "enumerate" = Value.type "tuple" from hc) (by decide)
theorem sq_end {prog : Program} {w : World} {A : Around} {E : Value → Shared → Prop} {s : Shared} {it l : Addr} {items : Array Value} {i : Nat} {Q : Value → Shared → Prop} (hh : A.handled = none) (t : Bool)
    (hit : IsIt s.heap t it l i) (hl : IsSeq s.heap t l items) (hx : items[i]? = none) (hE : ∀ h' e, Heap.ExtBut it s.heap h' → (∃ o, h'.get? e = some o ∧ o.cls = .type "StopIteration") → E (.ref e) { s with heap := h' }) : wpAny (model prog w) A (Builtin.SmallTypes.nextOf (.ref it)) Q E s := by
  cases t with
  | true => exact wpAny_nextOf_tuple_end hh (show s.heap.IsTupleIter it l i from hit) hl hx hE
  | false => exact wpAny_nextOf_list_end hh (show s.heap.IsListIter it l i from hit) hl hx hE
theorem ol_enum_end {prog : Program} {w : World} {A : Around} {E : Value → Shared → Prop} {s : Shared} {e it l : Addr} {items : Array Value} {i : Nat} {c : Int} {old : Value} {Q : Option Value → Shared → Prop} (hh : A.handled = none) (t : Bool)
    (he : IsEnum s.heap e it c old) (hit : IsIt s.heap t it l i) (hl : IsSeq s.heap t l items) (hx : items[i]? = none) (hQ : ∀ h', Heap.ExtBut it s.heap h' → Q none { s with heap := h' }) : wpAny (model prog w) A (pyNext (.ref e)) Q E s := by
  have hT : s.TypeIs (.ref e) "enumerate" := ⟨_, he, rfl⟩
  unfold pyNext
  refine wpAny_bind (wpAny_attempt (wpAny_callSpecial?_slot (name := Str.ofString "__next__") hT F.slot_enumerate_next
    (wpAny_call_entry F.slot_enumerate_next hT F.entry_enumerate_next ?_ (F.args_enumerate_next_1 _))))
  show wpAny _ _ (field (.ref e) 2 >>= _) _ _ _
  refine wpAny_bind (wpAny_field he rfl (x := .ref it) rfl ?_)
  refine wpAny_bind (sq_end hh t hit hl hx fun h' x he' hx' => ?_)
  obtain ⟨o, ho, hc⟩ := hx'
  refine wpAny_bind (wpAny_isInstance (T := "StopIteration") (b := true) ⟨o, ho, hc⟩ isSubtype_stop ?_)
  exact wpAny_pure (hQ _ he')
theorem turn_en {P : Program} {w : World} {K : PySem.W.Frag} {elts : List Expr} {kk : Nat} {tpos : Pos} (t : Bool) (a e it : Addr) (k : Int) :
    Turn P w K (.Tuple elts kk tpos) (Ien K t a k) [e, it] e (fun i h => (∃ old, IsEnum h e it (k + ((i : Nat) : Int)) old) ∧ IsIt h t it a i ∧ e ≠ it) where
  mem := by simp
  obj := fun i h st b hb => by
    obtain ⟨⟨old, he⟩, hi, _⟩ := st
    have e' : b = e ∨ b = it := by simpa using hb
    rcases e' with z | z
    · rw [z]; exact ⟨_, he, fun v q => nomatch q⟩
    · rw [z]; exact hi.obj
  keep := fun i h h' st kp => let ⟨⟨old, he⟩, hi, hne⟩ := st; ⟨⟨old, kp e (by simp) _ he⟩, hi.keep fun o q => kp it (by simp) o q, hne⟩
  item := by
    intro X hP hw hK hc i pins s σ H E I hf st hg
    subst hP hw hK
    obtain ⟨⟨old, he⟩, hit, hne⟩ := st
    obtain ⟨xs, x, hq, hx⟩ := hg
    obtain ⟨its, rv, p⟩ := hq.at I
    obtain ⟨u, hu, ru⟩ := rv.get hx
    have hel : e < s.heap.objs.size := Heap.lt_size he
    obtain ⟨oit, hoit, _⟩ := hit.obj
    have hil : it < s.heap.objs.size := Heap.lt_size hoit
    have na := p.ne hit
    have ne2 := p.ne2 he
    refine wpAny_pyNext_enum_itemC (drawsSq (A := X.A.in1) (I.ok.hd hc) t it a na its.toArray) he ⟨hit, p⟩ (by have := (List.getElem?_eq_some_iff.mp hu).1; simpa using this) hne (by simp [hne, Ne.symm ne2]) fun y h' tk hy ho hit' hT hsz hk => ?_
    have ey : y = u := by
      have z : its.toArray[i]? = some y := hy
      simp only [List.getElem?_toArray] at z
      rw [hu] at z
      exact (Option.some.inj z).symm
    subst ey
    refine ⟨_, rfl, wpAny_letOwnedTupleGo_enum (s := { s with heap := h', toks := tk + 1 }) ho fun h'' he' sb => ?_⟩
    have hT2 : h''.get? s.heap.objs.size = some { cls := .type "tuple", data := .seq #[.int (k + (i : Nat)) tk, y] } := (sb.2 _ (Nat.ne_of_gt hel)).trans hT
    have new : ObjOk X.prog X.w (upd H s.heap.objs.size (.tup [.int (k + (i : Nat)), x])) h'' s.heap.objs.size (.tup [.int (k + (i : Nat)), x]) :=
      ⟨by show 2 ≤ sizeLine; decide, [.int (k + (i : Nat)) tk, y], .cons ⟨_, rfl⟩ (.cons ru .nil), ⟨_, hT2, rfl, _, rfl⟩⟩
    have I1 : Inv X pins σ (upd H s.heap.objs.size (.tup [.int (k + (i : Nat)), x])) { s with heap := h'', toks := tk + 1 } :=
      I.turnedNew (ch := [e, it]) (fun b ob hb q => (sb.2 b (fun z => hb (by simp [z]))).trans (hk b ob (fun z => hb (by simp [z])) (fun z => hb (by simp [z])) q)) hf (Nat.le_refl _) new
    refine ⟨.ref s.heap.objs.size, _, I1, rfl, ⟨_, x, rfl, I.hok.fresh (Nat.le_refl _), rfl, fun ys hy => by rw [Sq2.inj I hy hq]; exact hx⟩, ⟨⟨y, ?_⟩, hit'.1.keep fun o q => (sb.2 it (Ne.symm hne)).trans q, hne⟩, fun b hb => ?_⟩
    · have e1 : k + ((i + 1 : Nat) : Int) = k + (i : Int) + 1 := by omega
      rw [e1]; exact he'
    · have hb' : b < s.heap.objs.size := by
        have e' : b = e ∨ b = it := by simpa using hb
        rcases e' with z | z
        · rw [z]; exact hel
        · rw [z]; exact hil
      rw [upd_ne (Nat.ne_of_lt hb')]
      exact (hf b hb).1
  done := by
    intro X hP hw hK hc i pins s σ H E I hf st hg
    subst hP hw hK
    obtain ⟨⟨old, he⟩, hit, hne⟩ := st
    obtain ⟨xs, hq, hx⟩ := hg
    obtain ⟨its, rv, p⟩ := hq.at I
    have na := p.ne hit
    obtain ⟨f0, f1, f2, f3, f4, f5⟩ := hf it (by simp)
    have hl := rv.length
    exact ol_enum_end (I.ok.hd hc) t he hit p (by simp only [List.getElem?_toArray]; exact List.getElem?_eq_none (by omega)) fun h' eb => ⟨rfl, I.turned (t' := s.toks) (fun b o hb q => eb b o hb q) f0 f1 f3 f4 f5⟩
  self := fun A i s Q E st h => let ⟨⟨_, he⟩, _⟩ := st; wpAny_pyIter_enum he h
section
variable {X : Cx} {tg : Expr}
def iEn (K : PySem.W.Frag) (ta : TA) : TI := fun σ H R => ta σ H fun vs H1 => ∃ a xs t, vs = [.ref a] ∧ Sq2 K t H1 a xs ∧ R (Ien K t a 0) H1
theorem pi_en {e : Expr} {ta : TA} {p pos tpos : Pos} {elts : List Expr} {kk : Nat} (hg : Gl X "enumerate") (hm : X.mg "enumerate" = none) (ha : PA X [e] ta) (hs : starEach [e] X.env = [(false, eval e X.env)]) :
    PI X (.Tuple elts kk tpos) (.Call (.Name "enumerate" p) [e] [] pos) (iEn X.K ta) := by
  refine ⟨fun pins s σ H R I h => ?_⟩
  refine Call_ (ld_blt I hg hm boot_enumerate (PyProof.Rows.callWith_type1 (thn (ha.run pos pins s σ H _ I h) fun us s1 ⟨vs, H1, I1, r1, q1⟩ => ?_) hs rfl))
  obtain ⟨a, xs, t, ex, hq, q⟩ := q1
  subst ex
  cases r1 with
  | cons r rr =>
    cases rr
    cases r
    obtain ⟨its, rv, p'⟩ := hq.at I1
    have fin : ∀ h', IsEnum h' (s1.heap.objs.size + 1) s1.heap.objs.size 0 .none → IsIt h' t s1.heap.objs.size a 0 → (∀ b o, s1.heap.get? b = some o → h'.get? b = some o) → wpAny (model X.prog X.w) X.A (pyIter (.ref (s1.heap.objs.size + 1))) (PIE X pins σ (.Tuple elts kk tpos) R) X.xe { s1 with heap := h' } := by
      intro h' he hit hk
      refine wpAny_pyIter_enum he ?_
      have I2 : Inv X pins σ H1 { s1 with heap := h' } := I1.kept (t' := s1.toks) hk
      refine ⟨s1.heap.objs.size + 1, [s1.heap.objs.size + 1, s1.heap.objs.size], _, _, H1, rfl, I2, turn_en t a (s1.heap.objs.size + 1) s1.heap.objs.size 0, ⟨⟨.none, he⟩, hit, Nat.succ_ne_self _⟩, fun b hb => ?_, q⟩
      have e' : b = s1.heap.objs.size + 1 ∨ b = s1.heap.objs.size := by simpa using hb
      have hle : s1.heap.objs.size ≤ b := by
        rcases e' with z | z
        · rw [z]; exact Nat.le_add_right _ _
        · rw [z]; exact Nat.le_refl _
      exact I1.fpOk hle (I1.hok.fresh hle)
    cases t with
    | true => exact ol_enum1 (begins_tuple a its.toArray) p' fun h' he hit hsz hk => fin h' he ⟨_, hit, rfl, rfl⟩ hk
    | false => exact ol_enum1 (begins_list a its.toArray) p' fun h' he hit hsz hk => fin h' he ⟨_, hit, rfl, rfl⟩ hk
def Itq (K : PySem.W.Frag) (t : Bool) (a : Addr) : It := if t = true then Itt K a else Itl K a
def iSq (K : PySem.W.Frag) (te : TE) : TI := fun σ H R => te σ H fun x H1 => ∃ a xs t, x = .ref a ∧ Sq2 K t H1 a xs ∧ R (Itq K t a) H1
theorem pi_sq {l : Expr} {tl : TE} (hl : PE X l tl) : PI X tg l (iSq X.K tl) := by
  refine ⟨fun pins s σ H R I h => ?_⟩
  refine thn (hl.run pins s σ H _ I h) fun v s1 ⟨x, H1, I1, r1, q1⟩ => ?_
  obtain ⟨a, xs, t, e, hq, q⟩ := q1
  subst e
  cases r1
  have hf : ∀ b ∈ [s1.heap.objs.size], FpOk X pins H1 b := fun b hb => by
    have e : b = s1.heap.objs.size := by simpa using hb
    subst e
    exact I1.fpOk (Nat.le_refl _) (I1.hok.fresh (Nat.le_refl _))
  cases t with
  | false =>
    obtain ⟨its, rv, p, hz⟩ := I1.list hq
    refine wpAny_pyIter_list p.isList ?_
    exact ⟨s1.heap.objs.size, [s1.heap.objs.size], _, _, H1, rfl, I1.kept (t' := s1.toks) fun b o e => Heap.get?_push_of_some _ e, turn_list a _, ⟨_, Heap.get?_push_size _ rfl, rfl, rfl⟩, hf, q⟩
  | true =>
    obtain ⟨its, rv, p, hz⟩ := I1.tuple hq
    refine wpAny_pyIter_tuple (show s1.heap.IsTuple a its.toArray from p) ?_
    exact ⟨s1.heap.objs.size, [s1.heap.objs.size], _, _, H1, rfl, I1.kept (t' := s1.toks) fun b o e => Heap.get?_push_of_some _ e, turn_tuple a _, ⟨_, Heap.get?_push_size _ rfl, rfl, rfl⟩, hf, q⟩
theorem _root_.L2.PI.imp {e : Expr} {t t' : TI} (h : PI X tg e t) (i : ∀ σ H R, t' σ H R → t σ H R) : PI X tg e t' := ⟨fun pins s σ H R I w => h.run pins s σ H R I (i σ H R w)⟩
end
/-! ### what is walked, by values -/
/-- v lies at u; J walks it -/
inductive ItFor (C : RC) : PV → V → It → Prop where
  | tup {l a} : ItFor C (.tup l) (.ref a) (Itq C.K true a)
  | lv {l a} : ItFor C (.lv l) (.ref a) (Itq C.K false a)
  | sc {l a} : ItFor C (.sc l) (.ref a) (Itq C.K false a)
  | ref {i a} : ItFor C (.ref i) (.ref a) (Itq C.K false a)
  | rg1 {a b u} : ItFor C (.rg a b 1) u (Itr a (b - a).toNat)
  | etup {l a} : ItFor C (.enu (.tup l) 0) (.ref a) (Ien C.K true a 0)
  | elv {l a} : ItFor C (.enu (.lv l) 0) (.ref a) (Ien C.K false a 0)
  | esc {l a} : ItFor C (.enu (.sc l) 0) (.ref a) (Ien C.K false a 0)
  | eref {i a} : ItFor C (.enu (.ref i) 0) (.ref a) (Ien C.K false a 0)
/-- where it lies -/
def RI (k : Bool) (C : RC) (M π : List Addr) (H : Hp) : PV → V → Prop
  | .rg _ _ _, _ => True
  | .enu v _, u => RK k C M π H v u
  | v, u => RK k C M π H v u
section
variable {C : RC} {M π M' π' : List Addr} {ow : List Addr} {H H' : Hp} {en : Env} {σ : L2.St} {μ : Sto} {k : Bool} {v : PV} {u : V} {J : It}
theorem RI.st (s : St M π H M' π' H') (hs : ∀ a ∈ π, a ∈ M) (hs' : ∀ a ∈ π', a ∈ M') (h : RI k C M π H v u) : RI k C M' π' H' v u := by
  cases v <;> first | exact trivial | exact RK.st s hs hs' h
theorem RI.sx (s : Sx M π H M' π' H') (h : RI true C M π H v u) : RI true C M' π' H' v u := by
  cases v <;> first | exact trivial | exact RV.sx s h
/-- the items, as they come -/
theorem sq_items (R : RA C M π ow H en σ μ) {l : List PV} {xs : List V} {t : Bool} {a : Addr} (hq : Sq2 C.K t H a xs) (r : RVs C M π H l xs) (i : Nat) :
    (l[i]? = none → (Itq C.K t a).stop i H) ∧ ∀ x, l[i]? = some x → (Itq C.K t a).go i H ∧ ∀ w H', (Itq C.K t a).yld i H w H' → H' = H ∧ RV C M π H x w := by
  have hl := r.length
  refine ⟨fun e => ?_, fun x e => ?_⟩
  · have : xs.length ≤ i := by
      rw [← hl]
      exact List.getElem?_eq_none_iff.mp e
    cases t with
    | true => exact ⟨xs, hq, this⟩
    | false => exact ⟨xs, hq, this⟩
  · obtain ⟨w, hw, rw'⟩ := r.get e
    cases t with
    | true =>
      refine ⟨⟨xs, w, hq, hw⟩, fun z H' y => ?_⟩
      obtain ⟨e1, e2⟩ := y
      have e3 := e2 xs hq
      rw [hw] at e3
      cases e3
      exact ⟨e1, rw'⟩
    | false =>
      refine ⟨⟨xs, w, hq, hw⟩, fun z H' y => ?_⟩
      obtain ⟨e1, e2⟩ := y
      have e3 := e2 xs hq
      rw [hw] at e3
      cases e3
      exact ⟨e1, rw'⟩
theorem en_items (R : RA C M π ow H en σ μ) {l : List PV} {xs : List V} {t : Bool} {a : Addr} (hq : Sq2 C.K t H a xs) (r : RVs C M π H l xs) (i : Nat) :
    (l[i]? = none → (Ien C.K t a 0).stop i H) ∧ ∀ x, l[i]? = some x → (Ien C.K t a 0).go i H ∧ ∀ w H', (Ien C.K t a 0).yld i H w H' → HExt [] H H' ∧ (∀ b, H' b = none → H b = none) ∧ RV C M π H' (.tup [.int (0 + i), x]) w := by
  have hl := r.length
  refine ⟨fun e => ?_, fun x e => ?_⟩
  · have : xs.length ≤ i := by
      rw [← hl]
      exact List.getElem?_eq_none_iff.mp e
    exact ⟨xs, hq, this⟩
  · obtain ⟨w, hw, rw'⟩ := r.get e
    refine ⟨⟨xs, w, hq, hw⟩, fun z H' y => ?_⟩
    obtain ⟨T, x', rfl, hn, rfl, e2⟩ := y
    have e3 := e2 xs hq
    rw [hw] at e3
    cases e3
    refine ⟨.upd hn, upd_bk, rv_new hn R (.cons (by unfold RV; rfl) (.cons rw' .nil))⟩
theorem sq_of (R : RA C M π ow H en σ μ) {l : List PV} {a : Addr} (hv : v = .tup l ∨ v = .lv l ∨ v = .sc l ∨ ∃ i, v = .ref i ∧ μ[i]? = some (.lst l)) (h : RW C M π H v (.ref a)) : ∃ xs, Sq2 C.K (match v with | .tup _ => true | _ => false) H a xs ∧ RVs C M π H l xs := by
  rcases hv with rfl | rfl | rfl | ⟨i, rfl, e⟩
  · obtain ⟨b, xs, e, q, r⟩ := rv_tup h
    cases e
    exact ⟨xs, q, r⟩
  · obtain ⟨b, xs, e, _, q, r⟩ := rv_lv h
    cases e
    exact ⟨xs, .inl (.inl q), r⟩
  · obtain ⟨b, xs, e, q, r⟩ := rv_sc h
    cases e
    exact ⟨xs, q.sqL, r⟩
  · obtain ⟨b, xs, e, q, r⟩ := R.lst e h
    cases e
    exact ⟨xs, .inl (.inl q), r⟩
/-- what it yields -/
def Yl (C : RC) (M π : List Addr) (H H' : Hp) (x : PV) (w : V) : Prop := HExt [] H H' ∧ (∀ b, H' b = none → H b = none) ∧ RV C M π H' x w
theorem items (F : ItFor C v u J) (R : RA C M π ow H en σ μ) (h : RI k C M π H v u) (i : Nat) :
    (itAt μ v i = some none → J.stop i H) ∧ ∀ x, itAt μ v i = some (some x) → J.go i H ∧ ∀ w H', J.yld i H w H' → Yl C M π H H' x w := by
  have sq : ∀ {l : List PV} {xs : List V} {t : Bool} {a : Addr}, Sq2 C.K t H a xs → RVs C M π H l xs → (some l[i]? = some none → (Itq C.K t a).stop i H) ∧ ∀ x, some l[i]? = some (some x) → (Itq C.K t a).go i H ∧ ∀ w H', (Itq C.K t a).yld i H w H' → Yl C M π H H' x w := fun {l xs t a} q r => by
    obtain ⟨h1, h2⟩ := sq_items R q r i
    refine ⟨fun e => h1 (Option.some.inj e), fun x e => ?_⟩
    obtain ⟨h3, h4⟩ := h2 x (Option.some.inj e)
    refine ⟨h3, fun w H' y => ?_⟩
    obtain ⟨rfl, rw'⟩ := h4 w H' y
    exact ⟨.refl, fun _ h => h, rw'⟩
  have en' : ∀ {l : List PV} {xs : List V} {t : Bool} {a : Addr}, Sq2 C.K t H a xs → RVs C M π H l xs → ((some l[i]?).map (fun o : Option PV => o.map fun x => PV.tup [.int (0 + i), x]) = some none → (Ien C.K t a 0).stop i H) ∧
      ∀ x, (some l[i]?).map (fun o : Option PV => o.map fun x => PV.tup [.int (0 + i), x]) = some (some x) → (Ien C.K t a 0).go i H ∧ ∀ w H', (Ien C.K t a 0).yld i H w H' → Yl C M π H H' x w := fun {l xs t a} q r => by
    obtain ⟨h1, h2⟩ := en_items R q r i
    refine ⟨fun e => ?_, fun x e => ?_⟩
    · cases z : l[i]? with
      | none => exact h1 z
      | some w => rw [z] at e; cases e
    · cases z : l[i]? with
      | none => rw [z] at e; cases e
      | some w =>
        rw [z] at e
        cases e
        exact h2 w z
  have rl : ∀ {j : Nat} {y : Option PV}, (match μ[j]? with | some (.lst l) => some l[i]? | _ => none) = some y → ∃ l, μ[j]? = some (.lst l) ∧ some l[i]? = some y := fun {j y} e => by
    split at e
    · exact ⟨_, by assumption, e⟩
    · cases e
  cases F with
  | @tup l a =>
    obtain ⟨xs, q, r⟩ := sq_of R (l := l) (.inl rfl) (RK.rw R.sub h)
    exact sq q r
  | @lv l a =>
    obtain ⟨xs, q, r⟩ := sq_of R (l := l) (.inr (.inl rfl)) (RK.rw R.sub h)
    exact sq q r
  | @sc l a =>
    obtain ⟨xs, q, r⟩ := sq_of R (l := l) (.inr (.inr (.inl rfl))) (RK.rw R.sub h)
    exact sq q r
  | @ref j a =>
    refine ⟨fun e => ?_, fun x e => ?_⟩
    · obtain ⟨l, e1, e2⟩ := rl (y := none) e
      obtain ⟨xs, q, r⟩ := sq_of R (l := l) (.inr (.inr (.inr ⟨j, rfl, e1⟩))) (RK.rw R.sub h)
      exact (sq q r).1 e2
    · obtain ⟨l, e1, e2⟩ := rl (y := some x) e
      obtain ⟨xs, q, r⟩ := sq_of R (l := l) (.inr (.inr (.inr ⟨j, rfl, e1⟩))) (RK.rw R.sub h)
      exact (sq q r).2 x e2
  | @rg1 a b u =>
    have hl : rgLen a b 1 = (b - a).toNat := by simp [rgLen]
    refine ⟨fun e => ?_, fun x e => ?_⟩
    · unfold itAt at e
      split at e
      · rw [hl] at e
        have e := Option.some.inj e
        split at e
        · cases e
        · show (b - a).toNat ≤ i
          omega
      · cases e
    · unfold itAt at e
      split at e
      · rw [hl] at e
        have e := Option.some.inj e
        split at e
        · rename_i hi
          cases e
          refine ⟨hi, fun w H' y => ?_⟩
          obtain ⟨rfl, rfl⟩ := y
          refine ⟨.refl, fun _ h => h, ?_⟩
          unfold RV
          congr 1
          omega
        · cases e
      · cases e
  | @etup l a =>
    obtain ⟨xs, q, r⟩ := sq_of R (l := l) (.inl rfl) (RK.rw R.sub h)
    exact en' q r
  | @elv l a =>
    obtain ⟨xs, q, r⟩ := sq_of R (l := l) (.inr (.inl rfl)) (RK.rw R.sub h)
    exact en' q r
  | @esc l a =>
    obtain ⟨xs, q, r⟩ := sq_of R (l := l) (.inr (.inr (.inl rfl))) (RK.rw R.sub h)
    exact en' q r
  | @eref j a =>
    refine ⟨fun e => ?_, fun x e => ?_⟩
    · obtain ⟨o, e1, e2⟩ := Option.map_eq_some_iff.mp (show (itAt μ (.ref j) i).map _ = some none from e)
      obtain ⟨l, e3, e4⟩ := rl (y := o) e1
      obtain ⟨xs, q, r⟩ := sq_of R (l := l) (.inr (.inr (.inr ⟨j, rfl, e3⟩))) (RK.rw R.sub h)
      exact (en' q r).1 (by rw [e4, Option.map_some, e2])
    · obtain ⟨o, e1, e2⟩ := Option.map_eq_some_iff.mp (show (itAt μ (.ref j) i).map _ = some (some x) from e)
      obtain ⟨l, e3, e4⟩ := rl (y := o) e1
      obtain ⟨xs, q, r⟩ := sq_of R (l := l) (.inr (.inr (.inr ⟨j, rfl, e3⟩))) (RK.rw R.sub h)
      exact (en' q r).2 x (by rw [e4, Option.map_some, e2])
end
end OL
end
section
set_option Elab.async false
set_option linter.all false
set_option maxRecDepth 100000
/-! OL, part n: what is walked, as the text has it; comprehensions. -/
namespace OL
open PySem PySem.Spec PyProof.Rows L2
def relI (k : Bool) : Rl PV (V × It) := fun _ _ _ C M π H v p => ItFor C v p.1 p.2 ∧ RI k C M π H v p.1
def tI (C : RC) (W : WX) (k : Bool) (r : Env → Sto → Res PV) : TI := fun σ H R => tR C W (relI k) r σ H (fun p H' => R p.2 H')
/-- what is walked -/
abbrev evI (cf : CF) (it : E) : Env → Sto → Res PV := fun en μ => (evE cf it en μ).bind itR
section
variable {X : Cx} {g : G} {C : RC} {cf : CF} {W : WX} {k : Bool} {tg : Expr}
theorem pi_seqOk (o : GOk X g C cf W) {it : E} {e : Expr} (h : PE X e (tE C W k (evE cf it))) (hn : ∀ l, it ≠ .rng l) (hn2 : ∀ a s, it ≠ .enu a s) : PI X tg e (tI C W k (evI cf it)) := by
  refine (pi_sq h).imp fun σ H Q h => ?_
  obtain ⟨en, μ, π, M, ow, R, h⟩ := h
  refine oneS R h fun v μ1 π1 M1 x H1 R1 _ r hp => ?_
  have hK := o.K
  unfold itR at hp
  split at hp
  · rename_i ok
    have rw' := r.rw R1.sub
    have fin : ∀ {a : Addr} {t : Bool}, x = .ref a → ItFor C v (.ref a) (Itq C.K t a) → RI k C M1 π1 H1 v (.ref a) → Q (Itq X.K t a) H1 := fun {a t} e f ri => by
      have q := hp.ok (u := (V.ref a, Itq C.K t a)) R1 ⟨f, ri⟩
      rw [← hK]
      exact q
    cases v with
    | tup l =>
      obtain ⟨a, xs, e, q, _⟩ := rv_tup rw'
      exact ⟨a, xs, true, e, hK ▸ q, fin e .tup (e ▸ r)⟩
    | lv l =>
      obtain ⟨a, xs, e, _, q, _⟩ := rv_lv rw'
      exact ⟨a, xs, false, e, .inl (.inl q), fin e .lv (e ▸ r)⟩
    | sc l =>
      obtain ⟨a, xs, e, q, _⟩ := rv_sc rw'
      exact ⟨a, xs, false, e, hK ▸ q.sqL, fin e .sc (e ▸ r)⟩
    | ref i =>
      unfold itOk at ok
      dsimp only at ok
      split at ok
      · rename_i l hl
        obtain ⟨a, xs, e, q, _⟩ := R1.lst hl rw'
        exact ⟨a, xs, false, e, .inl (.inl q), fin e .ref (e ▸ r)⟩
      · cases ok
    | rg a b c =>
      have q : RV C M1 π1 H1 (.rg a b c) x := rw'
      unfold RV at q
      exact q.elim
    | enu a b =>
      have q : RV C M1 π1 H1 (.enu a b) x := rw'
      unfold RV at q
      exact q.elim
    | _ => cases ok
  · exact hp.elim
theorem evEs1 (a : E) (en : Env) (μ : Sto) : evEs cf [a] en μ = (evE cf a en μ).bind fun v μ => .ok [v] μ := by
  rw [evEs]
  congr 1
theorem evEs2 (a b : E) (en : Env) (μ : Sto) : evEs cf [a, b] en μ = (evE cf a en μ).bind fun v μ => (evE cf b en μ).bind fun w μ => .ok [v, w] μ := by
  rw [evEs]
  congr 1
  funext v μ
  rw [evEs1, bind_assoc]
  congr 1
theorem rg_inv {M π : List Addr} {ow : List Addr} {H : Hp} {en : Env} {σ : L2.St} {μ : Sto} {a b : Int} {Q : It → Hp → Prop} (R : RA C M π ow H en σ μ)
    (hp : post C W (relI k) ow en σ M π H (itR (.rg a b 1) μ) (fun p H' => Q p.2 H')) : (-(2 ^ 62) ≤ a ∧ a < 2 ^ 62 ∧ -(2 ^ 62) ≤ b ∧ b < 2 ^ 62) ∧ Q (Itr a (b - a).toNat) H := by
  unfold itR at hp
  split at hp
  · rename_i ok
    have ok2 : (rgOk a b 1 && decide ((1 : Int) = 1)) = true := ok
    rw [Bool.and_eq_true] at ok2
    have e := ok2.1
    unfold rgOk at e
    simp only [Bool.and_eq_true, decide_eq_true_eq] at e
    have h1 := e.1.1
    have h2 := e.1.2
    exact ⟨by omega, hp.ok (u := (V.non, Itr a (b - a).toNat)) R ⟨.rg1, trivial⟩⟩
  · exact hp.elim
theorem pi_r1 (o : GOk X g C cf W) {a : E} {ea : Expr} {x : Str} {p pos : Pos} (hx : x = "range") (hb : bltB g x = true) (ha : PE X ea (tE C W false (evE cf a))) (hs : ∀ r, starEach (ea :: r) X.env = (false, eval ea X.env) :: starEach r X.env) :
    PI X tg (.Call (.Name x p) [ea] [] pos) (tI C W k (evI cf (.rng [a]))) := by
  obtain ⟨g1, g2, g3⟩ := blt_of o hb
  subst hx
  refine (pi_range1 g1 g3 (pa_cons ha pa_nil (hs _)) (hs [])).imp fun σ H Q h => ?_
  obtain ⟨en, μ, π, M, ow, R, h⟩ := h
  unfold evI at h
  rw [evE, bind_assoc, evEs1, bind_assoc] at h
  refine one R h fun v μ1 π1 M1 y H1 R1 r hp => ?_
  cases v with
  | int j =>
    have e := rv_int (r.rw R1.sub)
    subst e
    obtain ⟨b, q⟩ := rg_inv R1 hp
    refine ⟨j, rfl, b.2.2.1, b.2.2.2, ?_⟩
    have e : (j - 0).toNat = j.toNat := by simp
    rw [← e]
    exact q
  | _ => exact hp.elim
theorem pi_r2 (o : GOk X g C cf W) {a b : E} {ea eb : Expr} {x : Str} {p pos : Pos} (hx : x = "range") (hb : bltB g x = true) (ha : PE X ea (tE C W false (evE cf a))) (h2 : PE X eb (tE C W false (evE cf b)))
    (hs : ∀ r, starEach (ea :: r) X.env = (false, eval ea X.env) :: starEach r X.env) (hs2 : ∀ r, starEach (eb :: r) X.env = (false, eval eb X.env) :: starEach r X.env) :
    PI X tg (.Call (.Name x p) [ea, eb] [] pos) (tI C W k (evI cf (.rng [a, b]))) := by
  obtain ⟨g1, g2, g3⟩ := blt_of o hb
  subst hx
  refine (pi_range2 g1 g3 (pa_cons ha (pa_cons h2 pa_nil (hs2 _)) (hs _)) (by rw [hs, hs2]; rfl) (hs2 [])).imp fun σ H Q h => ?_
  obtain ⟨en, μ, π, M, ow, R, h⟩ := h
  unfold evI at h
  rw [evE, bind_assoc, evEs2, bind_assoc] at h
  refine one R h fun v μ1 π1 M1 y H1 R1 r hp => ?_
  rw [bind_assoc] at hp
  refine oneS R1 hp fun w μ2 π2 M2 z H2 R2 s2 r2 hp => ?_
  have r := (r.rw R1.sub).st s2 R1.sub R2.sub
  cases v with
  | int i =>
    cases w with
    | int j =>
      have e := rv_int r
      subst e
      have e := rv_int (r2.rw R2.sub)
      subst e
      obtain ⟨b, q⟩ := rg_inv R2 hp
      exact ⟨i, j, rfl, ⟨b.1, b.2.1, b.2.2.1, b.2.2.2⟩, q⟩
    | _ => exact hp.elim
  | _ => cases w <;> exact hp.elim
theorem pi_enOk (o : GOk X g C cf W) {a : E} {ea : Expr} {x : Str} {p pos tpos : Pos} {elts : List Expr} {kk : Nat} (hx : x = "enumerate") (hb : bltB g x = true) (ha : PE X ea (tE C W k (evE cf a))) (hs : ∀ r, starEach (ea :: r) X.env = (false, eval ea X.env) :: starEach r X.env) :
    PI X (.Tuple elts kk tpos) (.Call (.Name x p) [ea] [] pos) (tI C W k (evI cf (.enu a none))) := by
  obtain ⟨g1, g2, g3⟩ := blt_of o hb
  subst hx
  refine (pi_en g1 g3 (pa_cons ha pa_nil (hs _)) (hs [])).imp fun σ H Q h => ?_
  obtain ⟨en, μ, π, M, ow, R, h⟩ := h
  unfold evI at h
  rw [evE, bind_assoc] at h
  refine oneS R h fun v μ1 π1 M1 x H1 R1 _ r hp => ?_
  have hK := o.K
  have hp : post C W (relI k) ow en σ M1 π1 H1 (itR (.enu v 0) μ1) (fun p H' => Q p.2 H') := hp
  unfold itR at hp
  split at hp
  · rename_i ok
    have rw' := r.rw R1.sub
    have fin : ∀ {a : Addr} {t : Bool}, x = .ref a → ItFor C (.enu v 0) (.ref a) (Ien C.K t a 0) → RI k C M1 π1 H1 (.enu v 0) (.ref a) → Q (Ien X.K t a 0) H1 := fun {a t} e f ri => by
      have q := hp.ok (u := (V.ref a, Ien C.K t a 0)) R1 ⟨f, ri⟩
      rw [← hK]
      exact q
    cases v with
    | tup l =>
      obtain ⟨a, xs, e, q, _⟩ := rv_tup rw'
      exact ⟨a, xs, true, by rw [e], hK ▸ q, fin e .etup (e ▸ r)⟩
    | lv l =>
      obtain ⟨a, xs, e, _, q, _⟩ := rv_lv rw'
      exact ⟨a, xs, false, by rw [e], .inl (.inl q), fin e .elv (e ▸ r)⟩
    | sc l =>
      obtain ⟨a, xs, e, q, _⟩ := rv_sc rw'
      exact ⟨a, xs, false, by rw [e], hK ▸ q.sqL, fin e .esc (e ▸ r)⟩
    | ref i =>
      unfold itOk at ok
      dsimp only at ok
      rw [Bool.and_eq_true] at ok
      have ok := ok.2
      split at ok
      · rename_i l hl
        obtain ⟨a, xs, e, q, _⟩ := R1.lst hl rw'
        exact ⟨a, xs, false, by rw [e], .inl (.inl q), fin e .eref (e ▸ r)⟩
      · cases ok
    | _ =>
      unfold itOk at ok
      simp at ok
  · exact hp.elim
end
end OL
end
section
set_option Elab.async false
set_option linter.all false
set_option maxRecDepth 100000
/-! OL, part o: comprehensions. -/
namespace OL
open PySem PySem.Spec PyProof.Rows L2
def WF : WX := fun _ _ _ _ => False
section
variable {X : Cx} {g : G} {C : RC} {cf : CF} {W : WX} {k : Bool}
theorem calm_inv {α β γ : Type} {rel : Rl β γ} {M π : List Addr} {ow : List Addr} {H : Hp} {en : Env} {σ : L2.St} {r : Res α} {f : α → Sto → Res β} {Q : γ → Hp → Prop} (h : post C W rel ow en σ M π H (r.calm.bind f) Q) : ∃ a μ, r = .ok a μ := by
  cases r with
  | ok a μ => exact ⟨a, μ, rfl⟩
  | exc c fs μ => exact h.elim
  | err => exact h.elim
/-- one turn of a walk that gathers -/
theorem gather_turn {α : Type} {f : PV → α → Sto → Res α} {v x : PV} {n k : Nat} {a : α} {μ : Sto} (h : itAt μ v k = some (some x)) : gather f v (n + 1) k a μ = (f x a μ).bind fun a' μ' => gather f v n (k + 1) a' μ' := by
  rw [gather, h]
theorem gather_end {α : Type} {f : PV → α → Sto → Res α} {v : PV} {n k : Nat} {a : α} {μ : Sto} (h : itAt μ v k = some none) : gather f v n k a μ = .ok a μ := by
  rw [gather, h]
theorem gather_zero {α : Type} {f : PV → α → Sto → Res α} {v x : PV} {k : Nat} {a : α} {μ : Sto} (h : itAt μ v k = some (some x)) : gather f v 0 k a μ = .err := by
  rw [gather, h]
theorem gather_none {α : Type} {f : PV → α → Sto → Res α} {v : PV} {n k : Nat} {a : α} {μ : Sto} (h : itAt μ v k = none) : gather f v n k a μ = .err := by
  rw [gather, h]
/-- a walk that gathers into a new thing at D -/
theorem gather_loop {α : Type} {rl : Rl PV V} (nw : NewOk C W rl) {f : PV → α → Sto → Res α} {fin : α → PV} {a0 : α} {o0 : HO} {src : PV} {u : V} {J : It} {M1 π1 : List Addr} {ow : List Addr} {H1 : Hp} {en : Env} {σ : L2.St} {μ1 : Sto} {Q : VK} {n0 : Nat} {D : Addr}
    {B : (Hp → Prop) → V → Hp → Prop} (R1 : RA C M1 π1 ow H1 en σ μ1) (F : ItFor C src u J) (ri : RI false C M1 π1 H1 src u) (hD : H1 D = none) (h0 : RO C (D :: M1) π1 (upd H1 D o0) D (fin a0))
    (hs : ∀ (Nx : Hp → Prop) (x : PV) (w : V) (acc acc' : α) (μ μ' : Sto) (M π : List Addr) (H : Hp), RA C M π ow H en σ μ → St M1 π1 H1 M π H → D ∈ M → D ∉ π → RO C M π H D (fin acc) → RV C M π H x w → f x acc μ = .ok acc' μ' →
      (∀ (M' π' : List Addr) (H' : Hp), RA C M' π' ow H' en σ μ' → St M1 π1 H1 M' π' H' → D ∈ M' → D ∉ π' → RO C M' π' H' D (fin acc') → Nx H') → B Nx w H)
    (h : post C W rl ow en σ M1 π1 H1 ((gather f src n0 0 a0 μ1).calm.bind fun l μ => .ok (fin l) μ) Q) :
    ∃ W : Nat → Nat → Hp → Prop, (∃ m, W 0 m (upd H1 D o0)) ∧ ∀ i m H, W i m H →
      (J.stop i H ∧ Q (.ref D) H) ∨ (J.go i H ∧ ∃ Nx : Hp → Prop, (∀ H', Nx H' → ∃ m', m' < m ∧ W (i + 1) m' H') ∧ ∀ x H', J.yld i H x H' → B Nx x H') := by
  refine ⟨fun i m H => ∃ μ π M acc, RA C M π ow H en σ μ ∧ St M1 π1 H1 M π H ∧ D ∈ M ∧ D ∉ π ∧ RO C M π H D (fin acc) ∧ post C W rl ow en σ M1 π1 H1 ((gather f src m i acc μ).calm.bind fun l μ => .ok (fin l) μ) Q, ?_, ?_⟩
  · obtain ⟨R2, s2⟩ := R1.hide (o := o0) hD
    exact ⟨n0, μ1, π1, D :: M1, a0, R2, s2, List.mem_cons_self, fun z => R1.trk D (R1.sub D z) hD, h0, h⟩
  · rintro i m H ⟨μ, π, M, acc, R, s, d1, d2, ro, hp⟩
    have it := items F R (ri.st s R1.sub R.sub) i
    obtain ⟨aR, μR, eR⟩ := calm_inv hp
    cases e : itAt μ src i with
    | none =>
      rw [gather_none e] at eR
      cases eR
    | some y =>
      cases y with
      | none =>
        rw [gather_end e] at hp
        exact .inl ⟨it.1 e, nw R1 R s hD d1 d2 ro hp⟩
      | some x =>
        obtain ⟨h1, h2⟩ := it.2 x e
        cases m with
        | zero =>
          rw [gather_zero e] at eR
          cases eR
        | succ m =>
          rw [gather_turn e] at hp eR
          cases ef : f x acc μ with
          | err => rw [ef] at eR; cases eR
          | exc c fs μ2 => rw [ef] at eR; cases eR
          | ok acc' μ' =>
            rw [ef] at hp
            refine .inr ⟨h1, fun H' => ∃ μ π M acc, RA C M π ow H' en σ μ ∧ St M1 π1 H1 M π H' ∧ D ∈ M ∧ D ∉ π ∧ RO C M π H' D (fin acc) ∧ post C W rl ow en σ M1 π1 H1 ((gather f src m (i + 1) acc μ).calm.bind fun l μ => .ok (fin l) μ) Q,
              fun H' n => ⟨m, Nat.lt_succ_self m, n⟩, fun w H' y => ?_⟩
            obtain ⟨e1, e2, rx⟩ := h2 w H' y
            have s2 : St M π H M π H' := .of e1 e2
            have R2 := R.grow e1 e2
            refine hs _ x w acc acc' μ μ' M π H' R2 (s.trans R1.sub s2) d1 d2 (ro.st s2 R.sub d2) rx ef fun M' π' H'' R3 s3 d3 d4 ro3 => ?_
            exact ⟨μ', π', M', acc', R3, s3, d3, d4, ro3, hp⟩
def blkG (g : G) (scope : Scope) : G := { g with sc := relS scope g.sc, fn := fun x => scope.names.lookup x == some .cell }
/-- the context of a comprehension's block -/
theorem GOk.blk (o : GOk X g C cf W) (hh : g.hot = false) {scope : Scope} (hk : scope.kind = .function) (s : Shared) (H : Hp) (Cc : Addr) (cl : List (Str × Addr)) (fp : List Addr) :
    GOk (X.blk s H scope (compEnvC scope cl Cc X.env) fp) (blkG g scope) C cf WF where
  K := o.K
  N := o.N
  sc := by
    show relS scope X.env.scope = relS scope g.sc
    rw [o.sc]
  kind := hk
  fn := fun x h => h
  nd := o.nd
  calm := o.calm
  un := o.un
  gd := o.gd
  blt := o.blt
  cons := o.cons
  fns := o.fns
  call := o.call
  exs := o.exs
  exm := o.exm
  exn := o.exn
  hx := fun a c d e => by rw [o.exn hh] at e; cases e
  sup := o.sup
  dep := o.dep
  tk := fun u s' ⟨_, _, _, _, _, _, _, _, _, _, _, _, _, _, _, _, w⟩ => w.elim
/-- one item's way: the store, the tests, the value -/
def stepL (cf : CF) (elt : E) (tg : Tg) (ifs : Option E) (vs : List Nat) (en : Env) (x : PV) (acc : List PV) (μ : Sto) : Res (List PV) := (Res.opt (assT tg x (wipeE en vs)) μ).bind fun env' μ =>
  (evIf cf ifs env' μ).bind fun t μ => if t = true then (evE cf elt env' μ).bind (snocL acc) else .ok acc μ
theorem bind_ok_inv {α β : Type} {r : Res α} {f : α → Sto → Res β} {b : β} {μ : Sto} (h : r.bind f = .ok b μ) : ∃ a μ', r = .ok a μ' ∧ f a μ' = .ok b μ := by
  cases r with
  | ok a μ' => exact ⟨a, μ', rfl, h⟩
  | exc c fs m => cases h
  | err => cases h
theorem opt_ok_inv {α : Type} {o : Option α} {μ μ' : Sto} {a : α} (h : Res.opt o μ = .ok a μ') : o = some a ∧ μ' = μ := by
  cases o with
  | none => cases h
  | some b => cases h; exact ⟨rfl, rfl⟩
theorem snoc_inv {acc acc' : List PV} {v : PV} {μ μ' : Sto} (h : snocL acc v μ = .ok acc' μ') : acc.length < SZ ∧ acc' = acc ++ [v] ∧ μ' = μ := by
  unfold snocL at h
  split at h
  · cases h
    exact ⟨by assumption, rfl, rfl⟩
  · cases h
/-- what an item is led to within a block -/
def BodyL (C : RC) (cf : CF) (elt : E) (tg : Tg) (ifs : Option E) (vs : List Nat) (σ : L2.St) (D : Addr) (Nx : Hp → Prop) (w : V) (H : Hp) : Prop :=
  gTg C tg w (L2.wipe σ vs) H fun σ2 H2 => L2.wipe σ2 vs = L2.wipe σ vs ∧ tT C WF (evIf cf ifs) σ2 H2 fun b H3 =>
    if b = true then tE C WF true (evE cf elt) σ2 H3 fun y H4 => ∃ acc, H4 D = some (.lst acc) ∧ acc.length < sizeLine ∧ Nx (upd H4 D (.lst (acc ++ [y]))) else Nx H3
theorem step_body {elt : E} {tg : Tg} {ifs : Option E} {vs : List Nat} {M1 π1 : List Addr} {ow : List Addr} {H1 : Hp} {en : Env} {σ : L2.St} {D : Addr} (hD : H1 D = none) (hsl : ∀ i ∈ slotsT tg, i ∈ vs)
    (hown : ∀ (i : Nat) (w : PV), en[i]? = some (some (.own w)) → σ[i]? ≠ some (some (.ref D))) (hs1 : ∀ a ∈ π1, a ∈ M1)
    {P : List Addr → List Addr → Hp → Prop} (hP1 : ∀ {M π M' π' : List Addr} {H H' : Hp}, P M π H → St M π H M' π' H' → (∀ a ∈ π, a ∈ M) → P M' π' H') (hP2 : ∀ {M π : List Addr} {H : Hp} {xs : List V} {o' : HO}, P M π H → D ∈ M → H D = some (.lst xs) → P M π (upd H D o'))
    (Nx : Hp → Prop) (x : PV) (w : V) (acc acc' : List PV) (μ μ' : Sto) (M π : List Addr) (H : Hp) (R : RA C M π ow H en σ μ) (s : St M1 π1 H1 M π H) (d1 : D ∈ M) (d2 : D ∉ π) (ro : RO C M π H D (.lv acc)) (rx : RV C M π H x w) (hp : P M π H) (hf : stepL cf elt tg ifs vs en x acc μ = .ok acc' μ')
    (hn : ∀ (M' π' : List Addr) (H' : Hp), RA C M' π' ow H' en σ μ' → St M1 π1 H1 M' π' H' → D ∈ M' → D ∉ π' → RO C M' π' H' D (.lv acc') → P M' π' H' → Nx H') : BodyL C cf elt tg ifs vs σ D Nx w H := by
  unfold stepL at hf
  obtain ⟨env', μa, e1, hf⟩ := bind_ok_inv hf
  obtain ⟨e1, em⟩ := opt_ok_inv e1
  rw [em] at hf
  obtain ⟨t, μ2, e2, hf⟩ := bind_ok_inv hf
  refine ⟨wipeE en vs, μ, π, M, ow, x, env', R.wipe vs, rx, e1, fun σ2 R2 same => ⟨wipe_same same hsl, ?_⟩⟩
  refine ⟨env', μ, π, M, ow, R2, ?_⟩
  rw [e2]
  intro b H3 π3 M3 R3 s3 eb
  have eb : t = b := eb
  subst eb
  have dd : ∀ {M' π' : List Addr} {H' : Hp}, St M π H M' π' H' → D ∈ M' ∧ D ∉ π' := fun {M' π' H'} s' => ⟨s'.sub D d1, fun z => by
    rcases s'.nw2 D z with z | z
    · exact d2 z
    · exact R.trk D d1 z⟩
  cases t with
  | true =>
    have hf : (evE cf elt env' μ2).bind (snocL acc) = .ok acc' μ' := hf
    obtain ⟨y, μ3, e3, hf⟩ := bind_ok_inv hf
    obtain ⟨hz, rfl, rfl⟩ := snoc_inv hf
    show tE C WF true (evE cf elt) σ2 H3 _
    refine ⟨env', μ2, π3, M3, ow, R3, ?_⟩
    rw [e3]
    intro yv H4 π4 M4 R4 s4 ry
    have ry : RV C M4 π4 H4 y yv := ry
    have s34 := s3.trans R2.sub s4
    obtain ⟨xs, hx, rs⟩ := ro.st s34 R.sub d2
    obtain ⟨q1, q2⟩ := dd s34
    have hl := rs.length
    refine ⟨xs, hx, by rw [← hl, ← szl]; exact hz, ?_⟩
    have Rb := R.back s34 R4
    have sx := sx_poke (π := π4) (o' := .lst (xs ++ [yv])) q1 hx trivial
    refine hn M4 π4 _ (Rb.poke q1 hx trivial q2 hown) ((s.trans hs1 s34).poke hD) q1 q2 ⟨xs ++ [yv], upd_same, RVs.append (rs.sx sx) (.cons (ry.sx sx) .nil)⟩ (hP2 (hP1 hp s34 R.sub) q1 hx)
  | false =>
    have hf : Res.ok acc μ2 = .ok acc' μ' := hf
    cases hf
    show Nx H3
    obtain ⟨q1, q2⟩ := dd s3
    exact hn M3 π3 H3 (R.back s3 R3) (s.trans hs1 s3) q1 q2 (ro.st s3 R.sub d2) (hP1 hp s3 R.sub)
theorem comp_read {rl : Rl PV V} (nw : NewOk C W rl) {elt : E} {tg : Tg} {it : E} {ifs : Option E} {vs : List Nat} (hsl : ∀ i ∈ slotsT tg, i ∈ vs) {σ : L2.St} {H : Hp} {Q : VK} (h : tR C W rl (evE cf (.comp elt tg it ifs vs)) σ H Q) :
    tLc (tI C W false (evI cf it)) (gTg C tg) (tT C WF (evIf cf ifs)) (tE C WF true (evE cf elt)) vs σ H Q := by
  obtain ⟨en, μ, π, M, ow, R, h⟩ := h
  rw [evE] at h
  refine (tR_bind (rel := relI false) R h).mono fun p H1 ⟨src, μ1, π1, M1, R1, s1, ⟨F, ri⟩, hp⟩ => ?_
  intro D hD
  obtain ⟨n1, n2, n3⟩ := R1.old hD
  exact gather_loop (B := BodyL C cf elt tg ifs vs σ D) (fin := .lv) (o0 := .lst []) nw R1 F ri hD ⟨[], upd_same, .nil⟩ (fun Nx x w acc acc' μ μ' M π H R s d1 d2 ro rx hf hn => step_body (P := fun _ _ _ => True) hD hsl n3 R1.sub (fun _ _ _ => trivial) (fun _ _ _ => trivial) Nx x w acc acc' μ μ' M π H R s d1 d2 ro rx trivial hf fun M' π' H' a b c d e _ => hn M' π' H' a b c d e) hp
theorem comp_ok (o : GOk X g C cf W) (hh : g.hot = false) {rl : Rl PV V} (nw : NewOk C W rl) {elt : E} {tg : Tg} {it : E} {ifs : Option E} {vs : List Nat} {eE tgE itE : Expr} {ifsE : List Expr} {scope : Scope} {own : List (Str × Nat)} {pos : Pos}
    (hi : PI X tgE itE (tI C W false (evI cf it))) (hown : own.map (·.2) = vs) (bk : blkC g.N g.sc scope own = true) (hg : ∀ X', GOk X' (blkG g scope) C cf WF → PG X' tgE (gTg C tg)) (ht : ∀ X', GOk X' (blkG g scope) C cf WF → PTs X' ifsE (tT C WF (evIf cf ifs)))
    (he : ∀ X', GOk X' (blkG g scope) C cf WF → PE X' eE (tE C WF true (evE cf elt))) (hsl : ∀ i ∈ slotsT tg, i ∈ vs) (hs : ∀ x, foldedSetIterable itE X.env x = pure x) :
    PE X (.ListComp eE [⟨tgE, itE, ifsE, 0⟩] scope pos) (tR C W rl (evE cf (.comp elt tg it ifs vs))) := by
  have ok : BlkOk X.N X.env.scope scope own := by rw [o.N, o.sc]; exact blkOk_by bk
  refine (pe_lc (o.calm hh) (by rw [o.N]; exact o.nd) hi ok (fun s H Cc cl fp => hg _ (o.blk hh ok.kind s H Cc cl fp)) (fun s H Cc cl fp => ht _ (o.blk hh ok.kind s H Cc cl fp)) (fun s H Cc cl fp => he _ (o.blk hh ok.kind s H Cc cl fp)) hs).imp fun σ H Q h => ?_
  rw [hown]
  exact comp_read nw hsl h
/-- a walk within a walk -/
theorem gather_in {f : PV → List PV → Sto → Res (List PV)} {src : PV} {u : V} {J : It} {M1 π1 : List Addr} {ow : List Addr} {H1 : Hp} {en : Env} {σ : L2.St} {D : Addr}
    {B : (Hp → Prop) → V → Hp → Prop} {Nx : Hp → Prop} (F : ItFor C src u J) (hs1 : ∀ a ∈ π1, a ∈ M1)
    (hs : ∀ (Nx : Hp → Prop) (x : PV) (w : V) (acc acc' : List PV) (μ μ' : Sto) (M π : List Addr) (H : Hp), RA C M π ow H en σ μ → St M1 π1 H1 M π H → D ∈ M → D ∉ π → RO C M π H D (.lv acc) → RV C M π H x w → RI true C M π H src u → f x acc μ = .ok acc' μ' →
      (∀ (M' π' : List Addr) (H' : Hp), RA C M' π' ow H' en σ μ' → St M1 π1 H1 M' π' H' → D ∈ M' → D ∉ π' → RO C M' π' H' D (.lv acc') → RI true C M' π' H' src u → Nx H') → B Nx w H)
    {n0 : Nat} {acc accF : List PV} {μ μF : Sto} {M π : List Addr} {H : Hp} (R : RA C M π ow H en σ μ) (s : St M1 π1 H1 M π H) (d1 : D ∈ M) (d2 : D ∉ π) (ro : RO C M π H D (.lv acc)) (ri : RI true C M π H src u) (hg : gather f src n0 0 acc μ = .ok accF μF)
    (hn : ∀ (M' π' : List Addr) (H' : Hp), RA C M' π' ow H' en σ μF → St M1 π1 H1 M' π' H' → D ∈ M' → D ∉ π' → RO C M' π' H' D (.lv accF) → Nx H') :
    ∃ W : Nat → Nat → Hp → Prop, (∃ m, W 0 m H) ∧ ∀ i m H, W i m H →
      (J.stop i H ∧ Nx H) ∨ (J.go i H ∧ ∃ Nx1 : Hp → Prop, (∀ H', Nx1 H' → ∃ m', m' < m ∧ W (i + 1) m' H') ∧ ∀ x H', J.yld i H x H' → B Nx1 x H') := by
  refine ⟨fun i m H => ∃ μ π M acc, RA C M π ow H en σ μ ∧ St M1 π1 H1 M π H ∧ D ∈ M ∧ D ∉ π ∧ RO C M π H D (.lv acc) ∧ RI true C M π H src u ∧ gather f src m i acc μ = .ok accF μF, ⟨n0, μ, π, M, acc, R, s, d1, d2, ro, ri, hg⟩, ?_⟩
  clear R s d1 d2 ro ri hg
  rintro i m H ⟨μ, π, M, acc, R, s, d1, d2, ro, ri, eR⟩
  have it := items F R (k := true) ri i
  cases e : itAt μ src i with
  | none =>
    rw [gather_none e] at eR
    cases eR
  | some y =>
    cases y with
    | none =>
      rw [gather_end e] at eR
      cases eR
      exact .inl ⟨it.1 e, hn M π H R s d1 d2 ro⟩
    | some x =>
      obtain ⟨h1, h2⟩ := it.2 x e
      cases m with
      | zero =>
        rw [gather_zero e] at eR
        cases eR
      | succ m =>
        rw [gather_turn e] at eR
        obtain ⟨acc', μ', ef, eR⟩ := bind_ok_inv eR
        refine .inr ⟨h1, fun H' => ∃ μ π M acc, RA C M π ow H' en σ μ ∧ St M1 π1 H1 M π H' ∧ D ∈ M ∧ D ∉ π ∧ RO C M π H' D (.lv acc) ∧ RI true C M π H' src u ∧ gather f src m (i + 1) acc μ = .ok accF μF,
          fun H' n => ⟨m, Nat.lt_succ_self m, n⟩, fun w H' y => ?_⟩
        obtain ⟨e1, e2, rx⟩ := h2 w H' y
        have s2 : St M π H M π H' := .of e1 e2
        exact hs _ x w acc acc' μ μ' M π H' (R.grow e1 e2) (s.trans hs1 s2) d1 d2 (ro.st s2 R.sub d2) rx (RI.sx (s2.sx R.sub) ri) ef fun M' π' H'' R3 s3 d3 d4 ro3 ri3 => ⟨μ', π', M', acc', R3, s3, d3, d4, ro3, ri3, eR⟩
/-- one item's way with a second clause -/
def stepL2 (cf : CF) (elt : E) (tg : Tg) (ifs : Option E) (tg2 : Tg) (it2 : E) (ifs2 : Option E) (vs vs2 : List Nat) (en : Env) (x : PV) (acc : List PV) (μ : Sto) : Res (List PV) := (Res.opt (assT tg x (wipeE en vs)) μ).bind fun env' μ =>
  (evIf cf ifs env' μ).bind fun t μ => if t = true then (evI cf it2 env' μ).bind (fun src2 μ => gather (stepL cf elt tg2 ifs2 vs2 env') src2 (itLen μ src2) 0 acc μ) else .ok acc μ
theorem com2_ok (o : GOk X g C cf W) (hh : g.hot = false) {rl : Rl PV V} (nw : NewOk C W rl) {elt : E} {tg tg2 : Tg} {it it2 : E} {ifs ifs2 : Option E} {vs vs2 : List Nat} {eE tgE itE tgE2 itE2 : Expr} {ifsE ifsE2 : List Expr} {scope : Scope} {own : List (Str × Nat)} {pos : Pos}
    (hi : PI X tgE itE (tI C W false (evI cf it))) (hown : own.map (·.2) = vs) (bk : blkC g.N g.sc scope own = true) (hg : ∀ X', GOk X' (blkG g scope) C cf WF → PG X' tgE (gTg C tg)) (ht : ∀ X', GOk X' (blkG g scope) C cf WF → PTs X' ifsE (tT C WF (evIf cf ifs)))
    (hi2 : ∀ X', GOk X' (blkG g scope) C cf WF → PI X' tgE2 itE2 (tI C WF true (evI cf it2))) (hg2 : ∀ X', GOk X' (blkG g scope) C cf WF → PG X' tgE2 (gTg C tg2)) (ht2 : ∀ X', GOk X' (blkG g scope) C cf WF → PTs X' ifsE2 (tT C WF (evIf cf ifs2)))
    (he : ∀ X', GOk X' (blkG g scope) C cf WF → PE X' eE (tE C WF true (evE cf elt))) (hsl : ∀ i ∈ slotsT tg, i ∈ vs) (hsl2 : ∀ i ∈ slotsT tg2, i ∈ vs2) (hv : ∀ i ∈ vs2, i ∈ vs) (hs : ∀ x, foldedSetIterable itE X.env x = pure x) (hs2 : ∀ env x, foldedSetIterable itE2 env x = pure x) :
    PE X (.ListComp eE [⟨tgE, itE, ifsE, 0⟩, ⟨tgE2, itE2, ifsE2, 0⟩] scope pos) (tR C W rl (evE cf (.com2 elt tg it ifs tg2 it2 ifs2 vs vs2))) := by
  have ok : BlkOk X.N X.env.scope scope own := by rw [o.N, o.sc]; exact blkOk_by bk
  refine (pe_lc2 (vs1 := vs2) (o.calm hh) (by rw [o.N]; exact o.nd) hi ok (by rw [hown]; exact hv) (fun s H Cc cl fp => hg _ (o.blk hh ok.kind s H Cc cl fp)) (fun s H Cc cl fp => ht _ (o.blk hh ok.kind s H Cc cl fp)) (fun s H Cc cl fp => hi2 _ (o.blk hh ok.kind s H Cc cl fp)) (fun s H Cc cl fp => hg2 _ (o.blk hh ok.kind s H Cc cl fp))
    (fun s H Cc cl fp => ht2 _ (o.blk hh ok.kind s H Cc cl fp)) (fun s H Cc cl fp => he _ (o.blk hh ok.kind s H Cc cl fp)) hs hs2).imp fun σ H Q h => ?_
  obtain ⟨en, μ, π, M, ow, R, h⟩ := h
  rw [evE] at h
  refine (tR_bind (rel := relI false) R h).mono fun p H1 ⟨src, μ1, π1, M1, R1, s1, ⟨F, ri⟩, hp⟩ => ?_
  intro D hD
  rw [hown]
  obtain ⟨n1, n2, n3⟩ := R1.old hD
  refine gather_loop (B := fun Nx w H => gTg C tg w (L2.wipe σ vs) H fun σ2 H2 => L2.wipe σ2 vs = L2.wipe σ vs ∧ tT C WF (evIf cf ifs) σ2 H2 fun b H3 =>
    if b = true then tI C WF true (evI cf it2) σ2 H3 fun J1 H4 => ∃ W1 : Nat → Nat → Hp → Prop, (∃ m, W1 0 m H4) ∧ ∀ j k H, W1 j k H →
      (J1.stop j H ∧ Nx H) ∨ (J1.go j H ∧ ∃ Nx1 : Hp → Prop, (∀ H', Nx1 H' → ∃ k', k' < k ∧ W1 (j + 1) k' H') ∧ ∀ x H', J1.yld j H x H' → BodyL C cf elt tg2 ifs2 vs2 σ2 D Nx1 x H')
    else Nx H3) (fin := .lv) (o0 := .lst []) nw R1 F ri hD ⟨[], upd_same, .nil⟩ (f := stepL2 cf elt tg ifs tg2 it2 ifs2 vs vs2 en) (fun Nx x w acc acc' μ μ' M π H R s d1 d2 ro rx hf hn => ?_) hp
  unfold stepL2 at hf
  obtain ⟨env', μa, e1, hf⟩ := bind_ok_inv hf
  obtain ⟨e1, em⟩ := opt_ok_inv e1
  rw [em] at hf
  obtain ⟨t, μ2, e2, hf⟩ := bind_ok_inv hf
  refine ⟨wipeE en vs, μ, π, M, ow, x, env', R.wipe vs, rx, e1, fun σ2 R2 same => ⟨wipe_same same hsl, ?_⟩⟩
  refine ⟨env', μ, π, M, ow, R2, ?_⟩
  rw [e2]
  intro b H3 π3 M3 R3 s3 eb
  have eb : t = b := eb
  subst eb
  have dd : ∀ {M' π' : List Addr} {H' : Hp}, St M π H M' π' H' → D ∈ M' ∧ D ∉ π' := fun {M' π' H'} s' => ⟨s'.sub D d1, fun z => by
    rcases s'.nw2 D z with z | z
    · exact d2 z
    · exact R.trk D d1 z⟩
  cases t with
  | false =>
    have hf : Res.ok acc μ2 = .ok acc' μ' := hf
    cases hf
    show Nx H3
    obtain ⟨q1, q2⟩ := dd s3
    exact hn M3 π3 H3 (R.back s3 R3) (s.trans R1.sub s3) q1 q2 (ro.st s3 R.sub d2)
  | true =>
    have hf : (evI cf it2 env' μ2).bind (fun src2 μ => gather (stepL cf elt tg2 ifs2 vs2 env') src2 (itLen μ src2) 0 acc μ) = .ok acc' μ' := hf
    obtain ⟨src2, μ4, e4, hf⟩ := bind_ok_inv hf
    rw [if_pos rfl]
    refine ⟨env', μ2, π3, M3, ow, R3, ?_⟩
    rw [e4]
    intro p2 H4 π4 M4 R4 s4 hp2
    obtain ⟨F2, ri2⟩ := hp2
    have s34 := s3.trans R2.sub s4
    obtain ⟨q1, q2⟩ := dd s34
    have nown2 : ∀ (i : Nat) (w : PV), env'[i]? = some (some (.own w)) → σ2[i]? ≠ some (some (.ref D)) := by
      intro i w e z
      obtain ⟨e1, e2⟩ := same.2 i w e
      obtain ⟨e3, e4⟩ := wipe_own (σ := σ) e1
      refine n3 i w e3 ?_
      rw [← z, e2, wipe_get, if_neg e4]
    refine gather_in (B := BodyL C cf elt tg2 ifs2 vs2 σ2 D) F2 R1.sub (fun Nx1 x w acc acc' μ μ' M π H R s d1 d2 ro rx ri hf hn => ?_) R4 (s.trans R1.sub s34) q1 q2 (ro.st s34 R.sub d2) ri2 hf fun M' π' H' R5 s5 d3 d4 ro5 => ?_
    · exact step_body (P := fun M π H => RI true C M π H src2 p2.1) hD hsl2 nown2 R1.sub (fun q s hs => RI.sx (s.sx hs) q) (fun q d e => RI.sx (sx_poke d e trivial) q) Nx1 x w acc acc' μ μ' M π H R s d1 d2 ro rx ri hf hn
    · exact hn M' π' H' (R1.back s5 R5) s5 d3 d4 ro5
theorem putR_inv {acc acc' : List Ky × List PV} {y z : PV} {μ μ' : Sto} (h : putR acc y z μ = .ok acc' μ') : ∃ k, keyOf y = some k ∧ acc.1.length < SZ ∧ acc' = putK acc.1 acc.2 k z ∧ μ' = μ := by
  unfold putR at h
  split at h
  · rename_i k e
    split at h
    · cases h
      exact ⟨k, e, by assumption, rfl, rfl⟩
    · cases h
  · cases h
theorem dcm_ok (o : GOk X g C cf W) (hh : g.hot = false) {rl : Rl PV V} (nw : NewOk C W rl) {ke ve : E} {tg : Tg} {it : E} {vs : List Nat} {kE vE tgE itE : Expr} {scope : Scope} {own : List (Str × Nat)} {pos : Pos}
    (hi : PI X tgE itE (tI C W false (evI cf it))) (hown : own.map (·.2) = vs) (bk : blkC g.N g.sc scope own = true) (hg : ∀ X', GOk X' (blkG g scope) C cf WF → PG X' tgE (gTg C tg))
    (hk : ∀ X', GOk X' (blkG g scope) C cf WF → PE X' kE (tE C WF true (evE cf ke))) (he : ∀ X', GOk X' (blkG g scope) C cf WF → PE X' vE (tE C WF true (evE cf ve))) (hsl : ∀ i ∈ slotsT tg, i ∈ vs) (hs : ∀ x, foldedSetIterable itE X.env x = pure x) :
    PE X (.DictComp kE vE [⟨tgE, itE, [], 0⟩] scope pos) (tR C W rl (evE cf (.dcm ke ve tg it vs))) := by
  have ok : BlkOk X.N X.env.scope scope own := by rw [o.N, o.sc]; exact blkOk_by bk
  refine (pe_dc (o.calm hh) (by rw [o.N]; exact o.nd) hi ok (fun s H Cc cl fp => hg _ (o.blk hh ok.kind s H Cc cl fp)) (fun s H Cc cl fp => pts_nil) (fun s H Cc cl fp => hk _ (o.blk hh ok.kind s H Cc cl fp)) (fun s H Cc cl fp => he _ (o.blk hh ok.kind s H Cc cl fp)) hs).imp fun σ H Q h => ?_
  obtain ⟨en, μ, π, M, ow, R, h⟩ := h
  rw [evE] at h
  refine (tR_bind (rel := relI false) R h).mono fun p H1 ⟨src, μ1, π1, M1, R1, s1, ⟨F, ri⟩, hp⟩ => ?_
  intro D hD
  rw [hown]
  obtain ⟨n1, n2, n3⟩ := R1.old hD
  refine gather_loop (B := fun Nx w H => gTg C tg w (L2.wipe σ vs) H fun σ2 H2 => L2.wipe σ2 vs = L2.wipe σ vs ∧ tYes σ2 H2 fun b H3 =>
    if b = true then tE C WF true (evE cf ke) σ2 H3 fun y H4 => tE C WF true (evE cf ve) σ2 H4 fun z H5 => ∃ kvs k, y = kV k ∧ H5 D = some (.dK kvs) ∧ kvs.length < sizeLine ∧ Nx (upd H5 D (.dK (L2.putK kvs k z))) else Nx H3)
    (fin := fun d : List Ky × List PV => .dv d.1 d.2) (o0 := .dK []) nw R1 F ri hD ⟨[], upd_same, rfl, .nil⟩ (fun Nx x w acc acc' μ μ' M π H R s d1 d2 ro rx hf hn => ?_) hp
  obtain ⟨env', μa, e1, hf⟩ := bind_ok_inv hf
  obtain ⟨e1, em⟩ := opt_ok_inv e1
  rw [em] at hf
  obtain ⟨y, μ2, e2, hf⟩ := bind_ok_inv hf
  obtain ⟨z, μ3, e3, hf⟩ := bind_ok_inv hf
  obtain ⟨key, ek, hz, rfl, rfl⟩ := putR_inv hf
  refine ⟨wipeE en vs, μ, π, M, ow, x, env', R.wipe vs, rx, e1, fun σ2 R2 same => ⟨wipe_same same hsl, ?_⟩⟩
  unfold tYes
  dsimp only
  rw [if_pos rfl]
  refine ⟨env', μ, π, M, ow, R2, ?_⟩
  rw [e2]
  intro yv H3 π3 M3 R3 s3 ry
  have ry : RV C M3 π3 H3 y yv := ry
  refine ⟨env', μ2, π3, M3, ow, R3, ?_⟩
  rw [e3]
  intro zv H4 π4 M4 R4 s4 rz
  have rz : RV C M4 π4 H4 z zv := rz
  have s34 := s3.trans R2.sub s4
  have q1 : D ∈ M4 := s34.sub D d1
  have q2 : D ∉ π4 := fun z => by
    rcases s34.nw2 D z with z | z
    · exact d2 z
    · exact R.trk D d1 z
  obtain ⟨xs, hx, hl, rs⟩ := ro.st s34 R.sub d2
  have ky := key_rv ek (ry.rw R3.sub)
  obtain ⟨ys, p1, p2, p3⟩ := put_rv key rz hl rs
  refine ⟨_, key, ky, hx, ?_, ?_⟩
  · rw [List.length_zip, ← hl, Nat.min_self, ← szl]
    exact hz
  · rw [p1]
    have sx := sx_poke (π := π4) (o' := .dK ((putK acc.1 acc.2 key z).1.zip ys)) q1 hx trivial
    exact hn M4 π4 _ ((R.back s34 R4).poke q1 hx trivial q2 n3) ((s.trans R1.sub s34).poke hD) q1 q2 ⟨ys, upd_same, p2, p3.sx sx⟩
end
end OL
end
section
set_option Elab.async false
set_option linter.all false
set_option maxRecDepth 100000
/-! OL, part p: displays of dicts. -/
namespace OL
open PySem PySem.Spec PyProof.Rows L2
section
variable {X : Cx} {g : G} {C : RC} {cf : CF} {W : WX} {k : Bool}
def trsOf (C : RC) (W : WX) (cf : CF) : List E → List (TE × TE)
  | k :: v :: r => (tE C W true (evE cf k), tE C W true (evE cf v)) :: trsOf C W cf r
  | _ => []
def RPs (C : RC) (M π : List Addr) (H : Hp) : List PV → List (V × V) → Prop
  | [], ps => ps = []
  | [_], _ => False
  | k :: v :: r, ps => ∃ x y ps', ps = (x, y) :: ps' ∧ RV C M π H k x ∧ RV C M π H v y ∧ RPs C M π H r ps'
def evenL : List E → Bool
  | [] => true
  | [_] => false
  | _ :: _ :: r => evenL r
theorem tPairs_mono {σ : L2.St} : ∀ {trs : List (TE × TE)} {H : Hp} {Q Q' : List (V × V) → Hp → Prop}, (∀ p ∈ trs, (∀ σ H (A B : VK), (∀ x H, A x H → B x H) → p.1 σ H A → p.1 σ H B) ∧ ∀ σ H (A B : VK), (∀ x H, A x H → B x H) → p.2 σ H A → p.2 σ H B) → (∀ ps H, Q ps H → Q' ps H) → tPairs trs σ H Q → tPairs trs σ H Q'
  | [], H, Q, Q', _, hq, h => hq _ _ h
  | (a, b) :: r, H, Q, Q', hm, hq, h => by
    refine (hm (a, b) List.mem_cons_self).1 σ H _ _ (fun x H1 h1 => ?_) h
    refine (hm (a, b) List.mem_cons_self).2 σ H1 _ _ (fun y H2 h2 => ?_) h1
    exact tPairs_mono (fun p hp => hm p (List.mem_cons_of_mem _ hp)) (fun ps H3 h3 => hq _ _ h3) h2
/-- a part, then the rest, all being asked of an earlier moment -/
theorem tR_base {α β γ δ : Type} {rel : Rl α β} {rel2 : Rl γ δ} {M0 π0 : List Addr} {H0 : Hp} {ow : List Addr} {en : Env} {σ : L2.St} {M π : List Addr} {H : Hp} {μ : Sto} {r : Env → Sto → Res α} {f : α → Sto → Res γ} {Q : δ → Hp → Prop} (h0 : ∀ a ∈ π0, a ∈ M0) (s0 : St M0 π0 H0 M π H) (R : RA C M π ow H en σ μ) (h : post C W rel2 ow en σ M0 π0 H0 ((r en μ).bind f) Q) :
    tR C W rel r σ H fun b H1 => ∃ a μ1 π1 M1, RA C M1 π1 ow H1 en σ μ1 ∧ St M π H M1 π1 H1 ∧ rel en σ ow C M1 π1 H1 a b ∧ post C W rel2 ow en σ M0 π0 H0 (f a μ1) Q := by
  refine ⟨en, μ, π, M, ow, R, ?_⟩
  cases e : r en μ with
  | ok v μ1 =>
    rw [e] at h
    exact fun u H1 π1 M1 R1 s1 q => ⟨v, μ1, π1, M1, R1, s1, q, h⟩
  | exc c fs μ1 =>
    rw [e] at h
    exact fun cls d H1 π1 M1 R1 s1 q => h cls d H1 π1 M1 R1 (s0.trans h0 s1) q
  | err =>
    rw [e] at h
    exact h
theorem pairs_post {α β : Type} {rel : Rl α β} {M0 π0 : List Addr} {H0 : Hp} {ow : List Addr} {en : Env} {σ : L2.St} {Q : β → Hp → Prop} (h0 : ∀ a ∈ π0, a ∈ M0) : ∀ {l : List E} {M π : List Addr} {H : Hp} {μ : Sto} {f : List PV → Sto → Res α}, evenL l = true → St M0 π0 H0 M π H → RA C M π ow H en σ μ → post C W rel ow en σ M0 π0 H0 ((evEs cf l en μ).bind f) Q →
    tPairs (trsOf C W cf l) σ H fun ps H1 => ∃ vs μ1 π1 M1, RA C M1 π1 ow H1 en σ μ1 ∧ St M π H M1 π1 H1 ∧ RPs C M1 π1 H1 vs ps ∧ post C W rel ow en σ M0 π0 H0 (f vs μ1) Q
  | [], M, π, H, μ, f, _, s0, R, h => by
    rw [evEs] at h
    exact ⟨[], μ, π, M, R, .refl, rfl, h⟩
  | [a], M, π, H, μ, f, he, _, _, _ => by cases he
  | a :: b :: r, M, π, H, μ, f, he, s0, R, h => by
    rw [evEs, bind_assoc] at h
    refine (tR_base (rel := RKr true) h0 s0 R h).mono fun x H1 ⟨v, μ1, π1, M1, R1, s1, r1, h1⟩ => ?_
    have r1 : RV C M1 π1 H1 v x := r1
    rw [evEs, bind_assoc, bind_assoc] at h1
    have s01 := s0.trans h0 s1
    refine (tR_base (rel := RKr true) h0 s01 R1 h1).mono fun y H2 ⟨w, μ2, π2, M2, R2, s2, r2, h2⟩ => ?_
    have r2 : RV C M2 π2 H2 w y := r2
    rw [bind_assoc] at h2
    refine tPairs_mono (fun p hp => ?_) (fun ps H3 q => ?_) (pairs_post h0 (l := r) he (s01.trans h0 s2) R2 h2)
    · have : ∀ {l : List E} {p : TE × TE}, p ∈ trsOf C W cf l → ∃ a b, p = (tE C W true (evE cf a), tE C W true (evE cf b)) := fun {l p} => by
        induction l using trsOf.induct with
        | case1 k v r ih =>
          intro h
          unfold trsOf at h
          rcases List.mem_cons.mp h with rfl | h
          · exact ⟨k, v, rfl⟩
          · exact ih h
        | case2 l h =>
          intro hp
          unfold trsOf at hp
          split at hp
          · exact absurd rfl (h _ _ _)
          · simp at hp
      obtain ⟨a, b, rfl⟩ := this hp
      exact ⟨fun σ H A B hm h => h.mono hm, fun σ H A B hm h => h.mono hm⟩
    · obtain ⟨vs, μ3, π3, M3, R3, s3, rp, h3⟩ := q
      refine ⟨v :: w :: vs, μ3, π3, M3, R3, (s1.trans R.sub s2).trans R.sub s3, ⟨x, y, ps, rfl, (r1.st s2 R1.sub).st s3 R2.sub, r2.st s3 R2.sub, rp⟩, h3⟩
theorem dis_rv {M π : List Addr} {H : Hp} : ∀ {vs : List PV} {d0 d : List Ky × List PV} {ps : List (V × V)} {xs0 : List V}, disD vs d0 = some d → RPs C M π H vs ps → d0.1.length = xs0.length → RVs C M π H d0.2 xs0 →
    ∃ (kvs : List (Key × V)) (xs : List V), ps = kvs.map (fun kv => (kV kv.1, kv.2)) ∧ mergeK (d0.1.zip xs0) kvs = d.1.zip xs ∧ d.1.length = xs.length ∧ RVs C M π H d.2 xs ∧ 2 * kvs.length = vs.length
  | [], d0, d, ps, xs0, e, r, hl, rs => by
    cases e
    have e : ps = [] := r
    subst e
    exact ⟨[], xs0, rfl, rfl, hl, rs, rfl⟩
  | [a], d0, d, ps, xs0, e, r, hl, rs => by exact r.elim
  | a :: b :: vs, d0, d, ps, xs0, e, r, hl, rs => by
    obtain ⟨x, y, ps', rfl, r1, r2, r3⟩ := r
    unfold disD at e
    obtain ⟨key, ek, e⟩ := Option.bind_eq_some_iff.mp e
    obtain ⟨ys, p1, p2, p3⟩ := put_rv key r2 hl rs
    obtain ⟨kvs, xs, q1, q2, q3, q4, q5⟩ := dis_rv e r3 p2 p3
    refine ⟨(key, y) :: kvs, xs, ?_, ?_, q3, q4, by simp; omega⟩
    · have hx : x = kV key := by
        cases a with
        | int i =>
          have h : x = .int i := r1
          cases ek
          exact h
        | str z =>
          have h : x = .str z := r1
          cases ek
          exact h
        | _ => cases ek
      rw [q1, hx]
      rfl
    · show mergeK (L2.putK (d0.1.zip xs0) key y) kvs = _
      rw [p1]
      exact q2
theorem dic_ok (o : GOk X g C cf W) {rl : Rl PV V} (nw : NewOk C W rl) {l : List E} {keys : List (Option Expr)} {values : List Expr} {pos : Pos} (hp : PPs X pos keys values (trsOf C W cf l)) (he : evenL l = true) (hall : keys.all (·.isSome) = true) (hl : keys.length = values.length) (h0 : keys ≠ []) (h15 : keys.length ≤ 15) :
    PE X (.Dict keys values pos) (tR C W rl (evE cf (.dic l))) := by
  refine (pe_disp hp hall hl h0 h15).imp fun σ H Q h => ?_
  obtain ⟨en, μ, π, M, ow, R, h⟩ := h
  rw [evE] at h
  intro p hn
  obtain ⟨n1, n2, n3⟩ := R.old hn
  obtain ⟨R0, s0⟩ := R.hide (o := .dK []) hn
  have h2 := pairs_post (cf := cf) (W := W) R.sub he s0 R0 h
  refine tPairs_mono (fun p hp => ?_) (fun ps H3 q => ?_) h2
  · have : ∀ {l : List E} {p : TE × TE}, p ∈ trsOf C W cf l → ∃ a b, p = (tE C W true (evE cf a), tE C W true (evE cf b)) := fun {l p} => by
      induction l using trsOf.induct with
      | case1 k v r ih =>
        intro h
        unfold trsOf at h
        rcases List.mem_cons.mp h with rfl | h
        · exact ⟨k, v, rfl⟩
        · exact ih h
      | case2 l h =>
        intro hp
        unfold trsOf at hp
        split at hp
        · exact absurd rfl (h _ _ _)
        · simp at hp
    obtain ⟨a, b, rfl⟩ := this hp
    exact ⟨fun σ H A B hm h => h.mono hm, fun σ H A B hm h => h.mono hm⟩
  · obtain ⟨vs, μ3, π3, M3, R3, s3, rp, h3⟩ := q
    have hd3 : p ∉ π3 := fun z => by
      rcases s3.nw2 p z with z | z
      · exact R.trk p (R.sub p z) hn
      · rw [upd_same] at z; cases z
    have hm3 : p ∈ M3 := s3.sub p List.mem_cons_self
    have hH3 : H3 p = some (.dK []) := s3.ext p _ upd_same (fun z => R.trk p (R.sub p z) hn)
    split at h3
    · rename_i hz
      obtain ⟨d, ed, h3⟩ := opt_inv h3
      obtain ⟨d, ed2, rfl⟩ := Option.map_eq_some_iff.mp ed
      obtain ⟨kvs, xs, q1, q2, q3, q4, q5⟩ := dis_rv ed2 rp (xs0 := []) rfl .nil
      refine ⟨hH3, kvs, q1, by omega, ?_⟩
      have q2 : mergeK [] kvs = d.1.zip xs := q2
      rw [q2]
      have sx := sx_poke (π := π3) (o' := .dK (d.1.zip xs)) hm3 hH3 trivial
      exact nw (v := .dv d.1 d.2) R (R3.poke hm3 hH3 trivial hd3 n3) ((s0.trans R.sub s3).poke hn) hn hm3 hd3 ⟨xs, upd_same, q3, q4.sx sx⟩ h3
    · exact h3.elim
end
end OL
end
section
set_option Elab.async false
set_option linter.all false
set_option maxRecDepth 100000
/-! OL, part q: expressions, the text held against the small language. -/
namespace OL
open PySem PySem.Spec PyProof.Rows L2
/-! ### what a text must be -/
def noStar : Expr → Bool
  | .Starred _ _ => false
  | _ => true
def noSlice : Expr → Bool
  | .Slice _ _ _ _ => false
  | _ => true
def noSet : Expr → Bool
  | .Set _ _ _ => false
  | _ => true
def plainTest : Expr → Bool
  | .UnaryOp _ _ _ => false
  | .BoolOp _ _ _ => false
  | .IfExp _ _ _ _ => false
  | .Compare _ _ _ _ => false
  | _ => true
def bltNm : Bi → Option String
  | .len => some "len" | .sum => some "sum" | .min => some "min" | .max => some "max" | .abs => some "abs" | .sorted => some "sorted" | .any => some "any" | .all => some "all" | .repr => some "repr"
  | .tuple => some "tuple" | .list => some "list" | .int => some "int" | _ => none
def tyOk : Ty → Bool
  | .cls _ => false
  | _ => true
def ownsOf (g : G) (vs : List Nat) : List (Str × Nat) := vs.map fun i => (g.N.getD i "", i)
theorem owns_snd (g : G) (vs : List Nat) : (ownsOf g vs).map (·.2) = vs := by
  unfold ownsOf
  rw [List.map_map]
  exact List.map_id _
/-- what makes a new list, a new dict -/
def isNew : E → Bool
  | .lst _ => true
  | .dic _ => true
  | .comp _ _ _ _ _ => true
  | .com2 _ _ _ _ _ _ _ _ _ => true
  | .dcm _ _ _ _ _ => true
  | .blt .list _ => true
  | .blt .sorted _ => true
  | .calo _ _ => true
  | _ => false
def isRg : E → Bool
  | .rng _ => true
  | .enu _ _ => true
  | _ => false
def isTup : Expr → Bool
  | .Tuple _ _ _ => true
  | _ => false
def slotsIn (t : Tg) (vs : List Nat) : Bool := (slotsT t).all fun i => decide (i ∈ vs)
mutual
def ckE (n : Nat) (g : G) (k : Bool) (t : E) (e : Expr) : Bool := match n with
  | 0 => false
  | n + 1 => match t, e with
    | .con (.int i), .Constant (.int j) _ _ => decide (i = j)
    | .con (.bl i), .Constant (.bool j) _ _ => i == j
    | .con (.str i), .Constant (.str j) _ _ => decide (i = j)
    | .con .non, .Constant .none _ _ => true
    | .con (.fn f), .Name x _ => decide ((x, f) ∈ g.fns) && glB g x
    | .var i, .Name x _ => decide (g.N[i]? = some x) && visB g x
    | .own i, .Name x _ => !k && decide (g.N[i]? = some x) && visB g x
    | .glo m, .Name x _ => decide ((x, m) ∈ g.cons) && glB g x
    | .bin p a b, .BinOp ea op eb _ => decide (op = opM p) && ckE n g false a ea && ckE n g false b eb
    | .neg a, .UnaryOp .USub ea _ => ckE n g false a ea
    | .not a, .UnaryOp .Not ea _ => ckE n g false a ea
    | .and a b, .BoolOp .And (e1 :: e2 :: r) pos => ckE n g k a e1 && (match r with
      | [] => ckE n g k b e2
      | _ => ckE n g k b (.BoolOp .And (e2 :: r) pos))
    | .or a b, .BoolOp .Or (e1 :: e2 :: r) pos => ckE n g k a e1 && (match r with
      | [] => ckE n g k b e2
      | _ => ckE n g k b (.BoolOp .Or (e2 :: r) pos))
    | .ife c a b, .IfExp ec ea eb _ => ckT n g c ec && ckE n g k a ea && ckE n g k b eb
    | .cmp p a b, .Compare ea [op] [eb] _ => decide (op = copM p) && ckE n g false a ea && ckE n g false b eb && noSet eb
    | .chn p q a b c, .Compare ea [op, oq] [eb, ec] _ => decide (op = copM p) && decide (oq = copM q) && ckE n g false a ea && ckE n g false b eb && ckE n g false c ec && noSet ec
    | .tup l, .Tuple es _ _ => ckEs n g true l es
    | .lst l, .List es _ => ckEs n g true l es
    | .dic l, .Dict keys vals _ => evenL l && keys.all (·.isSome) && decide (keys.length = vals.length) && decide (keys ≠ []) && decide (keys.length ≤ 15) && ckD n g l keys vals
    | .idx a i, .Subscript ea ei _ => ckE n g false a ea && ckE n g false i ei && noSlice ei
    | .slc a lo hi, .Subscript ea (.Slice el eh none _) _ => ckE n g false a ea && ckO n g lo el && ckO n g hi eh
    | .isi a ty, .Call (.Name x _) [ea, .Name y _] [] _ => tyOk ty && decide (x = "isinstance") && bltB g x && decide (y = Str.ofString (tyNm ty)) && bltB g y && ckE n g false a ea && noStar ea
    | .call f [], .Call (.Name x _) [] [] _ => !g.hot && decide ((x, f) ∈ g.fns) && glB g x
    | .call f l, .Call (.Name x _) es [] _ => !g.hot && decide ((x, f) ∈ g.fns) && glB g x && decide (es ≠ []) && ckEs n g true l es
    | .calo f [], .Call (.Name x _) [] [] _ => !g.hot && decide ((x, f) ∈ g.fns) && glB g x
    | .calo f l, .Call (.Name x _) es [] _ => !g.hot && decide ((x, f) ∈ g.fns) && glB g x && decide (es ≠ []) && ckEs n g true l es
    | .blt .tuple [.rng [a]], .Call (.Name x _) [.Call (.Name y _) [ea] [] _] [] _ => !g.hot && decide (x = "tuple") && bltB g x && decide (y = "range") && bltB g y && ckE n g false a ea && noStar ea
    | .blt b l, .Call (.Name x _) es [] _ => !g.hot && (match bltNm b with
      | some s => decide (x = Str.ofString s)
      | none => false) && bltB g x && decide (es ≠ []) && ckEs n g false l es
    | .met .get a [b, c], .Call (.Attribute ea m ap) [eb, ec] [] pos => decide (m = "get") && ckE n g false a ea && ckE n g true b eb && ckE n g true c ec && noStar eb && noStar ec && (ap.endLine == pos.line) && (match ea with
      | .Name _ _ => true
      | _ => false)
    | .comp elt tg it ifs vs, .ListComp ee [⟨te, ie, fe, 0⟩] scope _ => !g.hot && ckI n g false it te ie && blkC g.N g.sc scope (ownsOf g vs) && ckG (blkG g scope) tg te && ckF n (blkG g scope) ifs fe && ckE n (blkG g scope) true elt ee && slotsIn tg vs && noSet ie
    | .com2 elt tg it ifs tg2 it2 ifs2 vs vs2, .ListComp ee [⟨te, ie, fe, 0⟩, ⟨te2, ie2, fe2, 0⟩] scope _ => !g.hot && ckI n g false it te ie && blkC g.N g.sc scope (ownsOf g vs) && ckG (blkG g scope) tg te && ckF n (blkG g scope) ifs fe && ckI n (blkG g scope) true it2 te2 ie2 && ckG (blkG g scope) tg2 te2 &&
        ckF n (blkG g scope) ifs2 fe2 && ckE n (blkG g scope) true elt ee && slotsIn tg vs && slotsIn tg2 vs2 && (vs2.all fun i => decide (i ∈ vs)) && noSet ie && noSet ie2
    | .fld i c m, .Attribute (.Name x _) f _ => decide (g.N[i]? = some x) && visB g x && g.exs.any fun q => decide (q.2.1 = c) && decide (q.2.2[m]? = some f)
    | .dcm ke ve tg it vs, .DictComp ek ev [⟨te, ie, [], 0⟩] scope _ => !g.hot && ckI n g false it te ie && blkC g.N g.sc scope (ownsOf g vs) && ckG (blkG g scope) tg te && ckE n (blkG g scope) true ke ek && ckE n (blkG g scope) true ve ev && slotsIn tg vs && noSet ie
    | _, _ => false
/-- a test -/
def ckT (n : Nat) (g : G) (t : E) (e : Expr) : Bool := match n with
  | 0 => false
  | n + 1 => match t, e with
    | .not a, .UnaryOp .Not ea _ => ckT n g a ea
    | .and a b, .BoolOp .And (e1 :: e2 :: r) pos => ckT n g a e1 && (match r with
      | [] => ckT n g b e2
      | _ => ckT n g b (.BoolOp .And (e2 :: r) pos))
    | .or a b, .BoolOp .Or (e1 :: e2 :: r) pos => ckT n g a e1 && (match r with
      | [] => ckT n g b e2
      | _ => ckT n g b (.BoolOp .Or (e2 :: r) pos))
    | .cmp p a b, .Compare ea [op] [eb] _ => decide (op = copM p) && ckE n g false a ea && ckE n g false b eb && noSet eb
    | .chn p q a b c, .Compare ea [op, oq] [eb, ec] _ => decide (op = copM p) && decide (oq = copM q) && ckE n g false a ea && ckE n g false b eb && ckE n g false c ec && noSet ec
    | t, e => plainTest e && ckE n g false t e
def ckEs (n : Nat) (g : G) (k : Bool) (l : List E) (es : List Expr) : Bool := match n with
  | 0 => false
  | n + 1 => match l, es with
    | [], [] => true
    | t :: r, e :: er => ckE n g k t e && noStar e && ckEs n g k r er
    | _, _ => false
def ckD (n : Nat) (g : G) (l : List E) (ks : List (Option Expr)) (vs : List Expr) : Bool := match n with
  | 0 => false
  | n + 1 => match l, ks, vs with
    | [], [], [] => true
    | k :: v :: r, some ke :: kr, ve :: vr => ckE n g true k ke && ckE n g true v ve && ckD n g r kr vr
    | _, _, _ => false
def ckO (n : Nat) (g : G) (o : Option E) (e : Option Expr) : Bool := match n with
  | 0 => false
  | n + 1 => match o, e with
    | none, none => true
    | some t, some e => ckE n g false t e
    | _, _ => false
/-- a clause's tests -/
def ckF (n : Nat) (g : G) (o : Option E) (e : List Expr) : Bool := match n with
  | 0 => false
  | n + 1 => match o, e with
    | none, [] => true
    | some t, [e] => ckT n g t e
    | _, _ => false
/-- what is walked -/
def ckI (n : Nat) (g : G) (k : Bool) (t : E) (tg e : Expr) : Bool := match n with
  | 0 => false
  | n + 1 => match t, e with
    | .rng [a], .Call (.Name x _) [ea] [] _ => decide (x = "range") && bltB g x && ckE n g false a ea && noStar ea
    | .rng [a, b], .Call (.Name x _) [ea, eb] [] _ => decide (x = "range") && bltB g x && ckE n g false a ea && ckE n g false b eb && noStar ea && noStar eb
    | .enu a none, .Call (.Name x _) [ea] [] _ => decide (x = "enumerate") && bltB g x && ckE n g k a ea && noStar ea && isTup tg
    | t, e => !isRg t && ckE n g k t e
end
section
variable {X : Cx} {g : G} {C : RC} {cf : CF} {W : WX} {k : Bool}
theorem star_of {e : Expr} (h : noStar e = true) (env : PySem.Env) (r : List Expr) : starEach (e :: r) env = (false, eval e env) :: starEach r env := by
  cases e <;> first | rfl | cases h
theorem stars_none {pos : Pos} {env : PySem.Env} : ∀ {es : List Expr}, (∀ e ∈ es, noStar e = true) → (backTo pos (starEach es env)).any (·.1) = false
  | [], _ => rfl
  | e :: r, h => by
    rw [star_of (h e List.mem_cons_self)]
    have := stars_none (pos := pos) (env := env) (es := r) fun x hx => h x (List.mem_cons_of_mem _ hx)
    unfold backTo at this ⊢
    simpa using this
theorem mark_of {op : CmpOp} {e : Expr} (h : noSet e = true) : behindInMarks op e = false := by
  cases e <;> first | rfl | cases h
theorem slice_of {e : Expr} (h : noSlice e = true) : PlainIx e := by
  intro o i
  cases e <;> first | rfl | cases h
theorem fold_of {e : Expr} {env : PySem.Env} (h : noSet e = true) (x : Value) : foldedSetIterable e env x = pure x := by
  cases e <;> first | rfl | cases h
theorem test_of {e : Expr} {env : PySem.Env} (h : plainTest e = true) (whole : Sem Value) : PySem.isTrue e env whole = (do let v ← whole; standAt e.pos; holding [v] (truthy v)) := by
  cases e <;> first | rfl | cases h
theorem noStars {g : G} {k : Bool} : ∀ {l : List E} {es : List Expr} {n : Nat}, ckEs n g k l es = true → ∀ e ∈ es, noStar e = true
  | _, _, 0, h => by unfold ckEs at h; cases h
  | [], [], n + 1, h => fun e he => by simp at he
  | [], e :: es, n + 1, h => by unfold ckEs at h; cases h
  | t :: l, [], n + 1, h => by unfold ckEs at h; cases h
  | t :: l, e :: es, n + 1, h => by
    unfold ckEs at h
    simp only [Bool.and_eq_true] at h
    intro x hx
    rcases List.mem_cons.mp hx with rfl | hx
    · exact h.1.2
    · exact noStars (n := n) h.2 x hx
theorem rgVs {M π : List Addr} {H : Hp} {a b : Int} : RVs C M π H ((List.range (b - a).toNat).map fun j : Nat => PV.int (a + j * 1)) (rgV a b) := by
  unfold rgV
  generalize (b - a).toNat = n
  have : ∀ l : List Nat, RVs C M π H (l.map fun j : Nat => PV.int (a + j * 1)) (l.map fun i => V.int (a + (i : Nat))) := fun l => by
    induction l with
    | nil => exact .nil
    | cons j l ih => exact .cons (by unfold RV; rw [Int.mul_one]) ih
  exact this _
/-- tuple(range(n)) -/
theorem tupRg_ok (o : GOk X g C cf W) (hh : g.hot = false) {a : E} {ea : Expr} {x y : Str} {p1 p2 p3 p4 : Pos} (hx : x = "tuple") (hbx : bltB g x = true) (hy : y = "range") (hby : bltB g y = true) (ha : PE X ea (tE C W false (evE cf a))) (hn : noStar ea = true) :
    PE X (.Call (.Name x p1) [.Call (.Name y p2) [ea] [] p3] [] p4) (tE C W k (evE cf (.blt .tuple [.rng [a]]))) := by
  subst hx hy
  obtain ⟨g1, g2, g3⟩ := blt_of o hbx
  obtain ⟨h1, h2, h3⟩ := blt_of o hby
  refine (pe_tupRg (o.calm hh) g1 g3 (prg_1 h1 h3 ha (star_of hn _ _)) (by rfl)).imp fun σ H Q h => ?_
  obtain ⟨en, μ, π, M, ow, R, h⟩ := h
  rw [evE, evEs1, bind_assoc, evE, bind_assoc, evEs1, bind_assoc] at h
  refine one R h fun v μ1 π1 M1 z H1 R1 r hp => ?_
  cases v with
  | int j =>
    have e := rv_int (r.rw R1.sub)
    subst e
    refine ⟨j, rfl, ?_⟩
    have hp : post C W (RKr k) ow en σ M1 π1 H1 (bltM .tuple [.rg 0 j 1] μ1) Q := hp
    unfold bltM at hp
    dsimp only at hp
    obtain ⟨w, e, hp⟩ := opt_inv hp
    obtain ⟨l, e1, e⟩ := Option.bind_eq_some_iff.mp e
    unfold itAll at e1
    dsimp only at e1
    split at e1
    · rename_i ok
      have hl : rgLen 0 j 1 = (j - 0).toNat := by simp [rgLen]
      rw [hl] at e1
      cases e1
      split at e
      · rename_i hz
        cases e
        unfold rgOk at ok
        simp only [Bool.and_eq_true, decide_eq_true_eq] at ok
        have hb := ok.1.2
        rw [List.length_map, List.length_range] at hz
        refine ⟨⟨by omega, by omega, by omega, by omega, hz⟩, fun q hq => hp.valN R1 hq (rv_new hq R1 rgVs)⟩
      · cases e
    · cases e1
  | _ => exact hp.elim
end
end OL
end
section
set_option Elab.async false
set_option linter.all false
set_option maxRecDepth 100000
set_option maxHeartbeats 4000000
/-! OL, part r: expressions read as the small language has them. -/
namespace OL
open PySem PySem.Spec PyProof.Rows L2
structure AllOk (cf : CF) (C : RC) (n : Nat) : Prop where
  pe : ∀ {X : Cx} {g : G} {W : WX} {k : Bool} {t : E} {e : Expr}, GOk X g C cf W → ckE n g k t e = true → PE X e (tE C W k (evE cf t))
  pn : ∀ {X : Cx} {g : G} {W : WX} {rl : Rl PV V} {t : E} {e : Expr}, GOk X g C cf W → NewOk C W rl → isNew t = true → ckE n g true t e = true → PE X e (tR C W rl (evE cf t))
  pt : ∀ {X : Cx} {g : G} {W : WX} {t : E} {e : Expr}, GOk X g C cf W → ckT n g t e = true → PT X e (tT C W (evT cf t))
  pa : ∀ {X : Cx} {g : G} {W : WX} {k : Bool} {l : List E} {es : List Expr}, GOk X g C cf W → ckEs n g k l es = true → PA X es (tLk C W k (evEs cf l))
  pd : ∀ {X : Cx} {g : G} {W : WX} {l : List E} {ks : List (Option Expr)} {vs : List Expr} {pos : Pos}, GOk X g C cf W → ckD n g l ks vs = true → PPs X pos ks vs (trsOf C W cf l)
  po : ∀ {X : Cx} {g : G} {W : WX} {o : Option E} {e : Option Expr}, GOk X g C cf W → ckO n g o e = true → PO X e (tO C W (evO cf o))
  pf : ∀ {X : Cx} {g : G} {W : WX} {o : Option E} {e : List Expr}, GOk X g C cf W → ckF n g o e = true → PTs X e (tT C W (evIf cf o))
  pi : ∀ {X : Cx} {g : G} {W : WX} {k : Bool} {t : E} {tg e : Expr}, GOk X g C cf W → ckI n g k t tg e = true → PI X tg e (tI C W k (evI cf t))
section
variable {X : Cx} {g : G} {C : RC} {cf : CF} {W : WX} {k : Bool}
theorem pif_none : PTs X [] (tT C W (evIf cf none)) := ⟨fun pins s σ H Q I h => by
  refine pts_nil.run pins s σ H Q I ?_
  obtain ⟨en, μ, π, M, ow, R, h⟩ := h
  rw [evIf] at h
  exact h.ok R rfl⟩
theorem pif_some {t : E} {e : Expr} (h : PT X e (tT C W (evT cf t))) : PTs X [e] (tT C W (evIf cf (some t))) := ⟨fun pins s σ H Q I hw => by
  refine (pts_one h).run pins s σ H Q I ?_
  obtain ⟨en, μ, π, M, ow, R, hw⟩ := hw
  rw [evIf] at hw
  exact ⟨en, μ, π, M, ow, R, hw⟩⟩
/-- built-ins by name -/
theorem blt_ok (o : GOk X g C cf W) (hh : g.hot = false) {b : Bi} {s : String} {l : List E} {x : Str} {e : Expr} {es : List Expr} {p pos : Pos} {rl : Rl PV V} (nw : NewOk C W rl) (hv : isNew (.blt b l) = true ∨ rl = RKr k) (hs : bltNm b = some s) (hx : x = Str.ofString s) (hb : bltB g x = true) (ha : PA X (e :: es) (tLk C W false (evEs cf l)))
    (hst : ∀ e' ∈ e :: es, noStar e' = true) : PE X (.Call (.Name x p) (e :: es) [] pos) (tR C W rl (evE cf (.blt b l))) := by
  obtain ⟨g1, g2, g3⟩ := blt_of o hb
  obtain ⟨n1, n2, n3⟩ := okNm_all g2
  have hu := o.un
  have hc := o.calm hh
  have st := star_of (hst e List.mem_cons_self) X.env es
  have sn : (backTo pos (starEach es X.env)).any (·.1) = false := stars_none fun x hx => hst x (List.mem_cons_of_mem _ hx)
  subst hx
  cases b with
  | len =>
    cases hs
    rcases hv with hv | rfl
    · cases hv
    · exact bltR_ok (pe_callB (cr_len o.K) g1 g3 (by decide +kernel) ha n3 n1 st sn)
  | tuple =>
    cases hs
    rcases hv with hv | rfl
    · cases hv
    · exact bltR_ok (pe_callTy (cr_tuple1 o.K) g1 g3 (by decide +kernel) ha n3 n1 st sn)
  | list =>
    cases hs
    exact bltR_ok (pe_callTy (cr_list1 nw o.K) g1 g3 (by decide +kernel) ha n3 n1 st sn)
  | sum =>
    cases hs
    rcases hv with hv | rfl
    · cases hv
    · exact bltR_ok (pe_callB (cr_sum1 o.K hc) g1 g3 (by decide +kernel) ha n3 n1 st sn)
  | min =>
    cases hs
    rcases hv with hv | rfl
    · cases hv
    · exact bltR_ok (pe_callB (cr_min1 o.K hc (by omega)) g1 g3 (by decide +kernel) ha n3 n1 st sn)
  | max =>
    cases hs
    rcases hv with hv | rfl
    · cases hv
    · exact bltR_ok (pe_callB (cr_max1 o.K hc (by omega)) g1 g3 (by decide +kernel) ha n3 n1 st sn)
  | abs =>
    cases hs
    rcases hv with hv | rfl
    · cases hv
    · exact bltR_ok (pe_callB cr_abs1 g1 g3 (by decide +kernel) ha n3 n1 st sn)
  | sorted =>
    cases hs
    exact bltR_ok (pe_callB (cr_sorted1 nw o.K (by omega)) g1 g3 (by decide +kernel) ha n3 n1 st sn)
  | any =>
    cases hs
    rcases hv with hv | rfl
    · cases hv
    · exact bltR_ok (pe_callB (cr_any1 o.K hc) g1 g3 (by decide +kernel) ha n3 n1 st sn)
  | all =>
    cases hs
    rcases hv with hv | rfl
    · cases hv
    · exact bltR_ok (pe_callB (cr_all1 o.K hc) g1 g3 (by decide +kernel) ha n3 n1 st sn)
  | int =>
    cases hs
    rcases hv with hv | rfl
    · cases hv
    · exact bltR_ok (pe_callTy cr_int1 g1 g3 (by decide +kernel) ha n3 n1 st sn)
  | repr =>
    cases hs
    rcases hv with hv | rfl
    · cases hv
    · exact bltR_ok (pe_callB (cr_repr1 o.K (by omega) o.gd) g1 g3 (by decide +kernel) ha n3 n1 st sn)
  | _ => cases hs
end
theorem all_ok (cf : CF) (C : RC) : ∀ n, AllOk cf C n
  | 0 => ⟨fun _ h => (by unfold ckE at h; cases h), fun _ _ _ h => (by unfold ckE at h; cases h), fun _ h => (by unfold ckT at h; cases h), fun _ h => (by unfold ckEs at h; cases h), fun _ h => (by unfold ckD at h; cases h), fun _ h => (by unfold ckO at h; cases h), fun _ h => (by unfold ckF at h; cases h), fun _ h => (by unfold ckI at h; cases h)⟩
  | n + 1 => by
    have ih := all_ok cf C n
    have both : ∀ {X : Cx} {g : G} {W : WX} {rl : Rl PV V} {k : Bool} {t : E} {e : Expr}, GOk X g C cf W → NewOk C W rl → isNew t = true ∨ rl = RKr k → ckE (n + 1) g k t e = true → PE X e (tR C W rl (evE cf t)) := by
      intro X g W rl k t e o nw hv h
      have old : ∀ {t : E}, isNew t = true ∨ rl = RKr k → isNew t = false → rl = RKr k := fun hv hf => by
        rcases hv with hv | hv
        · rw [hf] at hv; cases hv
        · exact hv
      unfold ckE at h
      split at h
      · cases of_decide_eq_true h
        cases old hv rfl
        exact con_ok pe_int (fun _ _ _ h => h) fun M π H => by unfold RV; rfl
      · cases eq_of_beq h
        cases old hv rfl
        exact con_ok pe_bl (fun _ _ _ h => h) fun M π H => by unfold RV; rfl
      · cases of_decide_eq_true h
        cases old hv rfl
        exact con_ok pe_str (fun _ _ _ h => h) fun M π H => by unfold RV; rfl
      · cases old hv rfl
        exact con_ok pe_non (fun _ _ _ h => h) fun M π H => by unfold RV; rfl
      · simp only [Bool.and_eq_true, decide_eq_true_eq] at h
        cases old hv rfl
        exact fnv_ok o h.1 h.2
      · simp only [Bool.and_eq_true, decide_eq_true_eq] at h
        cases old hv rfl
        exact var_ok o h.1 h.2
      · simp only [Bool.and_eq_true, decide_eq_true_eq, Bool.not_eq_true'] at h
        cases old hv rfl
        obtain ⟨⟨rfl, h1⟩, h2⟩ := h
        exact own_ok o h1 h2
      · simp only [Bool.and_eq_true, decide_eq_true_eq] at h
        cases old hv rfl
        exact glo_ok o h.1 h.2
      · simp only [Bool.and_eq_true, decide_eq_true_eq] at h
        cases old hv rfl
        obtain ⟨⟨rfl, h1⟩, h2⟩ := h
        exact bin_ok o (ih.pe o h1) (ih.pe o h2)
      · cases old hv rfl
        exact neg_ok o (ih.pe o h)
      · cases old hv rfl
        exact not_ok o (ih.pe o h)
      · rw [Bool.and_eq_true] at h
        cases old hv rfl
        obtain ⟨h1, h2⟩ := h
        split at h2
        · exact and_ok o (ih.pe o h1) (pe_one (ih.pe o h2))
        · exact and_ok o (ih.pe o h1) (ih.pe o h2)
      · rw [Bool.and_eq_true] at h
        cases old hv rfl
        obtain ⟨h1, h2⟩ := h
        split at h2
        · exact or_ok o (ih.pe o h1) (pe_one (ih.pe o h2))
        · exact or_ok o (ih.pe o h1) (ih.pe o h2)
      · simp only [Bool.and_eq_true] at h
        cases old hv rfl
        exact ife_ok (ih.pt o h.1.1) (ih.pe o h.1.2) (ih.pe o h.2)
      · simp only [Bool.and_eq_true, decide_eq_true_eq] at h
        cases old hv rfl
        obtain ⟨⟨⟨rfl, h1⟩, h2⟩, h3⟩ := h
        exact cmp_ok o (ih.pe o h1) (ih.pe o h2) (mark_of h3)
      · simp only [Bool.and_eq_true, decide_eq_true_eq] at h
        cases old hv rfl
        obtain ⟨⟨⟨⟨⟨rfl, rfl⟩, h1⟩, h2⟩, h3⟩, h4⟩ := h
        exact chn_ok o (ih.pe o h1) (ih.pe o h2) (ih.pe o h3) (mark_of h4)
      · cases old hv rfl
        exact tup_ok (ih.pa o h)
      · exact lst_ok nw (ih.pa o h)
      · simp only [Bool.and_eq_true, decide_eq_true_eq] at h
        obtain ⟨⟨⟨⟨⟨h1, h2⟩, h3⟩, h4⟩, h5⟩, h6⟩ := h
        exact dic_ok o nw (ih.pd o h6) h1 h2 h3 h4 h5
      · simp only [Bool.and_eq_true] at h
        cases old hv rfl
        exact idx_ok o (ih.pe o h.1.1) (ih.pe o h.1.2) (slice_of h.2)
      · simp only [Bool.and_eq_true] at h
        cases old hv rfl
        exact slc_ok o (ih.pe o h.1.1) (ih.po o h.1.2) (ih.po o h.2)
      · simp only [Bool.and_eq_true, decide_eq_true_eq] at h
        cases old hv rfl
        obtain ⟨⟨⟨⟨⟨⟨h1, h2⟩, h3⟩, h4⟩, h5⟩, h6⟩, h7⟩ := h
        exact isi_ok o (fun c e => by subst e; cases h1) h2 h3 h4 h5 (ih.pe o h6) (star_of h7 _)
      · simp only [Bool.and_eq_true, decide_eq_true_eq, Bool.not_eq_true'] at h
        cases old hv rfl
        exact call0_ok o h.1.1 h.1.2 h.2
      · simp only [Bool.and_eq_true, decide_eq_true_eq, Bool.not_eq_true'] at h
        cases old hv rfl
        obtain ⟨⟨⟨⟨h1, h2⟩, h3⟩, h4⟩, h5⟩ := h
        have st := noStars h5
        obtain ⟨e, es, he⟩ := List.exists_cons_of_ne_nil h4
        subst he
        exact call_ok o h1 h2 h3 (ih.pa o h5) (star_of (st e List.mem_cons_self) _ _) (stars_none fun x hx => st x (List.mem_cons_of_mem _ hx))
      · simp only [Bool.and_eq_true, decide_eq_true_eq, Bool.not_eq_true'] at h
        exact calo0_ok o h.1.1 nw h.1.2 h.2
      · simp only [Bool.and_eq_true, decide_eq_true_eq, Bool.not_eq_true'] at h
        obtain ⟨⟨⟨⟨h1, h2⟩, h3⟩, h4⟩, h5⟩ := h
        have st := noStars h5
        obtain ⟨e, es, he⟩ := List.exists_cons_of_ne_nil h4
        subst he
        exact calo_ok o h1 nw h2 h3 (ih.pa o h5) (star_of (st e List.mem_cons_self) _ _) (stars_none fun x hx => st x (List.mem_cons_of_mem _ hx))
      · simp only [Bool.and_eq_true, decide_eq_true_eq, Bool.not_eq_true'] at h
        cases old hv rfl
        obtain ⟨⟨⟨⟨⟨⟨h1, h2⟩, h3⟩, h4⟩, h5⟩, h6⟩, h7⟩ := h
        exact tupRg_ok o h1 h2 h3 h4 h5 (ih.pe o h6) h7
      · simp only [Bool.and_eq_true, decide_eq_true_eq, Bool.not_eq_true'] at h
        obtain ⟨⟨⟨⟨h1, h2⟩, h3⟩, h4⟩, h5⟩ := h
        have st := noStars h5
        split at h2
        · rename_i s hs
          obtain ⟨e, es, he⟩ := List.exists_cons_of_ne_nil h4
          subst he
          exact blt_ok o h1 nw hv hs (of_decide_eq_true h2) h3 (ih.pa o h5) st
        · cases h2
      · simp only [Bool.and_eq_true, decide_eq_true_eq] at h
        cases old hv rfl
        obtain ⟨⟨⟨⟨⟨⟨⟨h1, h2⟩, h3⟩, h4⟩, h5⟩, h6⟩, h7⟩, h8⟩ := h
        subst h1
        refine get_ok o (ih.pe o h2) (ih.pe o h3) (ih.pe o h4) ⟨?_, ?_, h7, ?_⟩
        · split at h8
          · rfl
          · cases h8
        · rw [star_of h5, star_of h6]; rfl
        · rw [star_of h5, star_of h6]; rfl
      · simp only [Bool.and_eq_true, Bool.not_eq_true'] at h
        obtain ⟨⟨⟨⟨⟨⟨⟨h1, h2⟩, h3⟩, h4⟩, h5⟩, h6⟩, h7⟩, h8⟩ := h
        exact comp_ok o h1 nw (ih.pi o h2) (owns_snd _ _) h3 (fun X' o' => pg_ok o' _ _ h4) (fun X' o' => ih.pf o' h5) (fun X' o' => ih.pe o' h6) (fun i hi => of_decide_eq_true (List.all_eq_true.mp h7 i hi)) (fold_of h8)
      · simp only [Bool.and_eq_true, Bool.not_eq_true'] at h
        obtain ⟨⟨⟨⟨⟨⟨⟨⟨⟨⟨⟨⟨⟨h1, h2⟩, h3⟩, h4⟩, h5⟩, h6⟩, h7⟩, h8⟩, h9⟩, h10⟩, h11⟩, h12⟩, h13⟩, h14⟩ := h
        exact com2_ok o h1 nw (ih.pi o h2) (owns_snd _ _) h3 (fun X' o' => pg_ok o' _ _ h4) (fun X' o' => ih.pf o' h5) (fun X' o' => ih.pi o' h6) (fun X' o' => pg_ok o' _ _ h7) (fun X' o' => ih.pf o' h8) (fun X' o' => ih.pe o' h9)
          (fun i hi => of_decide_eq_true (List.all_eq_true.mp h10 i hi)) (fun i hi => of_decide_eq_true (List.all_eq_true.mp h11 i hi)) (fun i hi => of_decide_eq_true (List.all_eq_true.mp h12 i hi)) (fold_of h13) (fun env => fold_of h14)
      · simp only [Bool.and_eq_true, decide_eq_true_eq] at h
        obtain ⟨⟨h1, h2⟩, h3⟩ := h
        obtain ⟨q, hq, h4⟩ := List.any_eq_true.mp h3
        simp only [Bool.and_eq_true, decide_eq_true_eq] at h4
        obtain ⟨rfl, h5⟩ := h4
        cases old hv rfl
        exact fld_ok o h1 h2 hq h5
      · simp only [Bool.and_eq_true, Bool.not_eq_true'] at h
        obtain ⟨⟨⟨⟨⟨⟨⟨h1, h2⟩, h3⟩, h4⟩, h5⟩, h6⟩, h7⟩, h8⟩ := h
        exact dcm_ok o h1 nw (ih.pi o h2) (owns_snd _ _) h3 (fun X' o' => pg_ok o' _ _ h4) (fun X' o' => ih.pe o' h5) (fun X' o' => ih.pe o' h6) (fun i hi => of_decide_eq_true (List.all_eq_true.mp h7 i hi)) (fold_of h8)
      · cases h
    refine ⟨fun {X g W k t e} o h => both o newOk_k (.inr rfl) h, fun {X g W rl t e} o nw hn h => both o nw (.inl hn) h, fun {X g W t e} o h => ?_, fun {X g W k l es} o h => ?_, fun {X g W l ks vs pos} o h => ?_, fun {X g W o' e} o h => ?_, fun {X g W o' e} o h => ?_, fun {X g W k t tg e} o h => ?_⟩
    · unfold ckT at h
      split at h
      · exact notT_ok (ih.pt o h)
      · rw [Bool.and_eq_true] at h
        obtain ⟨h1, h2⟩ := h
        split at h2
        · exact andT_ok (ih.pt o h1) (pw_and1 (ih.pt o h2))
        · exact andT_ok (ih.pt o h1) (pw_of (ih.pt o h2))
      · rw [Bool.and_eq_true] at h
        obtain ⟨h1, h2⟩ := h
        split at h2
        · exact orT_ok (ih.pt o h1) (pw_or1 (ih.pt o h2))
        · exact orT_ok (ih.pt o h1) (pw_of (ih.pt o h2))
      · simp only [Bool.and_eq_true, decide_eq_true_eq] at h
        obtain ⟨⟨⟨rfl, h1⟩, h2⟩, h3⟩ := h
        exact cmpT_ok o (ih.pe o h1) (ih.pe o h2) (mark_of h3)
      · simp only [Bool.and_eq_true, decide_eq_true_eq] at h
        obtain ⟨⟨⟨⟨⟨rfl, rfl⟩, h1⟩, h2⟩, h3⟩, h4⟩ := h
        exact chnT_ok o (ih.pe o h1) (ih.pe o h2) (ih.pe o h3) (mark_of h4)
      · rw [Bool.and_eq_true] at h
        exact pt_gen o (ih.pe o h.2) (test_of h.1)
    · unfold ckEs at h
      split at h
      · exact pa_nilOk
      · simp only [Bool.and_eq_true] at h
        exact pa_consOk (ih.pe o h.1.1) (ih.pa o h.2) (star_of h.1.2 _ _)
      · cases h
    · unfold ckD at h
      split at h
      · exact pps_nil
      · simp only [Bool.and_eq_true] at h
        unfold trsOf
        exact pps_cons (ih.pe o h.1.1) (ih.pe o h.1.2) (ih.pd o h.2)
      · cases h
    · unfold ckO at h
      split at h
      · exact po_noneOk
      · exact po_someOk (ih.pe o h)
      · cases h
    · unfold ckF at h
      split at h
      · exact pif_none
      · exact pif_some (ih.pt o h)
      · cases h
    · unfold ckI at h
      split at h
      · simp only [Bool.and_eq_true, decide_eq_true_eq] at h
        obtain ⟨⟨⟨h1, h2⟩, h3⟩, h4⟩ := h
        exact pi_r1 o h1 h2 (ih.pe o h3) (star_of h4 _)
      · simp only [Bool.and_eq_true, decide_eq_true_eq] at h
        obtain ⟨⟨⟨⟨⟨h1, h2⟩, h3⟩, h4⟩, h5⟩, h6⟩ := h
        exact pi_r2 o h1 h2 (ih.pe o h3) (ih.pe o h4) (star_of h5 _) (star_of h6 _)
      · simp only [Bool.and_eq_true, decide_eq_true_eq] at h
        obtain ⟨⟨⟨⟨h1, h2⟩, h3⟩, h4⟩, h5⟩ := h
        cases tg <;> first | (cases h5; done) | skip
        exact pi_enOk o h1 h2 (ih.pe o h3) (star_of h4 _)
      · simp only [Bool.and_eq_true, Bool.not_eq_true'] at h
        refine pi_seqOk o (ih.pe o h.2) (fun l e => ?_) (fun a s e => ?_)
        · subst e; cases h.1
        · subst e; cases h.1
end OL
end
section
set_option Elab.async false
set_option linter.all false
set_option maxRecDepth 100000
set_option maxHeartbeats 1000000
/-! OL, part s: statements by what they compute. -/
namespace OL
open PySem PySem.Spec PyProof.Rows L2
/-! ### what holds along a def's body -/
abbrev Fr := List Addr → List Addr → List Addr → Hp → Prop
structure Frm (F : Fr) : Prop where
  st : ∀ {ow M π M' π' : List Addr} {H H' : Hp}, F ow M π H → (∀ a ∈ π, a ∈ M) → St M π H M' π' H' → F ow M' π' H'
  pk : ∀ {ow M π : List Addr} {H : Hp} {a : Addr} {o o' : HO}, F ow M π H → a ∈ M → a ∉ π → a ∉ ow → H a = some o → Mt o → F ow M π (upd H a o')
  bx : ∀ {ow M π : List Addr} {H : Hp} {a : Addr}, F ow M π H → a ∈ M → a ∉ ow → F ow M (π ++ [a]) H
/-- what is wanted behind a statement -/
def postS (C : RC) (W : WX) (F : Fr) (ow : List Addr) (r : Out) (D : Ends) : Prop := match r with
  | .ok .nx en μ => ∀ σ H π M, RA C M π ow H en σ μ → F ow M π H → D.nx σ H
  | .ok .bk en μ => ∀ σ H π M, RA C M π ow H en σ μ → F ow M π H → D.bk σ H
  | .ok .ct en μ => ∀ σ H π M, RA C M π ow H en σ μ → F ow M π H → D.ct σ H
  | .ok (.rt v) en μ => ∀ u σ H π M, RA C M π ow H en σ μ → F ow M π H → RV C (ow ++ π) π H v u → D.rt u H
  | .ok (.ro v) en μ => ∀ a σ H π M, RA C M π ow H en σ μ → F ow M π H → a ∈ M → a ∉ π → a ∉ ow → RO C M π H a v → D.rt (.ref a) H
  | .exc c fs en μ => ∀ cls d σ H π M, RA C M π ow H en σ μ → F ow M π H → RX C M π H c fs cls d → W cls d σ H
  | .err => False
def tS (C : RC) (W : WX) (F : Fr) (r : Env → Sto → Out) : TS := fun D σ H => ∃ en μ π M ow, RA C M π ow H en σ μ ∧ F ow M π H ∧ postS C W F ow (r en μ) D
section
variable {X : Cx} {g : G} {C : RC} {cf : CF} {W : WX} {F : Fr}
theorem _root_.L2.PS.imp {e : Stmt} {t t' : TS} (h : PS X e t) (i : ∀ D σ H, t' D σ H → t D σ H) : PS X e t' := ⟨fun pins s σ H D I w => h.run pins s σ H D I (i D σ H w)⟩
theorem _root_.L2.PSs.imp {e : List Stmt} {t t' : TS} (h : PSs X e t) (i : ∀ D σ H, t' D σ H → t D σ H) : PSs X e t' := ⟨fun pins s σ H D I w => h.run pins s σ H D I (i D σ H w)⟩
/-- an expression, then the rest of its statement -/
theorem exS (fm : Frm F) {α β : Type} {rel : Rl α β} {r : Env → Sto → Res α} {f : α → Sto → Out} {M π : List Addr} {ow : List Addr} {H : Hp} {en : Env} {σ : L2.St} {μ : Sto} {D : Ends} (R : RA C M π ow H en σ μ) (hF : F ow M π H) (h : postS C W F ow ((r en μ).thn en f) D) :
    tR C W rel r σ H fun b H1 => ∃ a μ1 π1 M1, RA C M1 π1 ow H1 en σ μ1 ∧ F ow M1 π1 H1 ∧ St M π H M1 π1 H1 ∧ rel en σ ow C M1 π1 H1 a b ∧ postS C W F ow (f a μ1) D := by
  refine ⟨en, μ, π, M, ow, R, ?_⟩
  cases e : r en μ with
  | ok v μ1 =>
    rw [e] at h
    exact fun u H1 π1 M1 R1 s1 q => ⟨v, μ1, π1, M1, R1, fm.st hF R.sub s1, s1, q, h⟩
  | exc c fs μ1 =>
    rw [e] at h
    exact fun cls d H1 π1 M1 R1 s1 q => h cls d σ H1 π1 M1 R1 (fm.st hF R.sub s1) q
  | err =>
    rw [e] at h
    exact h
theorem tS_of {r : Env → Sto → Out} {M π : List Addr} {ow : List Addr} {H : Hp} {en : Env} {σ : L2.St} {μ : Sto} {D : Ends} (R : RA C M π ow H en σ μ) (hF : F ow M π H) (h : postS C W F ow (r en μ) D) : tS C W F r D σ H := ⟨en, μ, π, M, ow, R, hF, h⟩
/-! ### blocks -/
theorem nil_ok : PSs X [] (tS C W F (evSs cf [])) := by
  refine pss_nil.imp fun D σ H h => ?_
  obtain ⟨en, μ, π, M, ow, R, hF, h⟩ := h
  rw [evSs] at h
  exact h σ H π M R hF
theorem seq_post {r : Out} {f : Env → Sto → Out} {ow : List Addr} {D : Ends} (h : postS C W F ow (r.seq f) D) : postS C W F ow r { D with nx := tS C W F f D } := by
  cases r with
  | ok fl en μ =>
    cases fl with
    | nx => exact fun σ H π M R hF => tS_of R hF h
    | rt v => exact h
    | ro v => exact h
    | bk => exact h
    | ct => exact h
  | exc c fs en μ => exact h
  | err => exact h
theorem cons_ok {t : S} {r : List S} {e : Stmt} {es : List Stmt} (h1 : PS X e (tS C W F (evS cf t))) (h2 : PSs X es (tS C W F (evSs cf r))) : PSs X (e :: es) (tS C W F (evSs cf (t :: r))) := by
  refine (pss_cons h1 h2).imp fun D σ H h => ?_
  obtain ⟨en, μ, π, M, ow, R, hF, h⟩ := h
  rw [evSs] at h
  exact tS_of R hF (seq_post h)
/-! ### single statements -/
theorem pas_ok {p : Pos} : PS X (.Pass p) (tS C W F (evS cf .pas)) := by
  refine ps_pass.imp fun D σ H h => ?_
  obtain ⟨en, μ, π, M, ow, R, hF, h⟩ := h
  rw [evS] at h
  exact h σ H π M R hF
theorem brk_ok {p : Pos} : PS X (.Break p) (tS C W F (evS cf .brk)) := by
  refine ps_break.imp fun D σ H h => ?_
  obtain ⟨en, μ, π, M, ow, R, hF, h⟩ := h
  rw [evS] at h
  exact h σ H π M R hF
theorem cnt_ok {p : Pos} : PS X (.Continue p) (tS C W F (evS cf .cnt)) := by
  refine ps_continue.imp fun D σ H h => ?_
  obtain ⟨en, μ, π, M, ow, R, hF, h⟩ := h
  rw [evS] at h
  exact h σ H π M R hF
/-- what is kept is kept for the caller -/
theorem RV.out {M π ow : List Addr} {H : Hp} {en : Env} {σ : L2.St} {μ : Sto} {v : PV} {u : V} (R : RA C M π ow H en σ μ) (h : RV C M π H v u) : RV C (ow ++ π) π H v u := h.less fun a ha => by
  rcases List.mem_append.mp ha with ha | ha
  · exact R.a0 a ha
  · exact R.sub a ha
theorem ret_ok (fm : Frm F) {e : E} {ee : Expr} {p : Pos} (hne : ∀ i, e = .own i → False) (h : PE X ee (tE C W true (evE cf e))) : PS X (.Return (some ee) p) (tS C W F (evS cf (.ret (some e)))) := by
  refine (ps_ret h).imp fun D σ H h => ?_
  obtain ⟨en, μ, π, M, ow, R, hF, h⟩ := h
  rw [evS] at h
  rotate_left
  · exact hne
  exact (exS (rel := RKr true) fm R hF h).mono fun u H1 ⟨v, μ1, π1, M1, R1, f1, s1, r, hp⟩ => hp u σ H1 π1 M1 R1 f1 (RV.out R1 r)
theorem retN_ok {p : Pos} : PS X (.Return none p) (tS C W F (evS cf (.ret none))) := by
  refine ps_retN.imp fun D σ H h => ?_
  obtain ⟨en, μ, π, M, ow, R, hF, h⟩ := h
  rw [evS] at h
  exact h .non σ H π M R hF (by unfold RV; rfl)
/-- a list of the def's own is handed out -/
theorem retO_ok (o : GOk X g C cf W) {i : Nat} {x : Str} {p p2 : Pos} (h1 : g.N[i]? = some x) (h2 : visB g x = true) : PS X (.Return (some (.Name x p2)) p) (tS C W F (evS cf (.ret (some (.own i))))) := by
  obtain ⟨hv, hn⟩ := vis_of o h2
  obtain ⟨n1, n2, _⟩ := okNm_all hn
  refine (ps_ret (pe_var (i := i) (by rw [o.N]; exact h1) hv n1 n2)).imp fun D σ H h => ?_
  obtain ⟨en, μ, π, M, ow, R, hF, h⟩ := h
  rw [evS] at h
  cases e0 : getO en i with
  | none => rw [e0] at h; exact h.elim
  | some w =>
    rw [e0] at h
    unfold getO at e0
    obtain ⟨v, e1, e2⟩ := Option.bind_eq_some_iff.mp e0
    obtain ⟨u, e3, r⟩ := R.ev i v (slot_at e1)
    cases v with
    | own z =>
      cases e2
      obtain ⟨a, rfl, hm, n, n2, ro⟩ := r
      exact ⟨_, e3, h a σ H π M R hF hm n n2 ro⟩
    | _ => cases e2
theorem expr_ok (fm : Frm F) {e : E} {ee : Expr} {p : Pos} (h : PE X ee (tE C W false (evE cf e))) (hs : swapsWith ee none p.line X.env = pure false) : PS X (.Expr ee p) (tS C W F (evS cf (.expr e))) := by
  refine (ps_expr h hs).imp fun D σ H h => ?_
  obtain ⟨en, μ, π, M, ow, R, hF, h⟩ := h
  rw [evS] at h
  exact (exS (rel := RKr false) fm R hF h).mono fun u H1 ⟨v, μ1, π1, M1, R1, f1, s1, r, hp⟩ => hp σ H1 π1 M1 R1 f1
theorem asg_ok (fm : Frm F) {t : Tg} {e : E} {te ee : Expr} {p : Pos} (h : PE X ee (tE C W true (evE cf e))) (hg : PG X te (gTg C t)) (hs : swapsWithSole [te] ee p.line X.env = pure false) (hw : swappedStores [te] ee X.env = pure none) (h1 : (assignEach [te] X.env).map (·.2) = [assign te X.env]) :
    PS X (.Assign [te] ee p) (tS C W F (evS cf (.asg t e))) := by
  refine (ps_asg h hg hs hw h1).imp fun D σ H h => ?_
  obtain ⟨en, μ, π, M, ow, R, hF, h⟩ := h
  rw [evS] at h
  refine (exS (rel := RKr true) fm R hF h).mono fun u H1 ⟨v, μ1, π1, M1, R1, f1, s1, r, hp⟩ => ?_
  cases ea : assT t v en with
  | none => rw [ea] at hp; exact hp.elim
  | some en' =>
    rw [ea] at hp
    exact ⟨en, μ1, π1, M1, ow, v, en', R1, r, ea, fun σ' R' _ => hp σ' H1 π1 M1 R' f1⟩
theorem iff_ok (fm : Frm F) {c : E} {a b : List S} {ec : Expr} {ea eb : List Stmt} {p : Pos} (hc : PT X ec (tT C W (evT cf c))) (ha : PSs X ea (tS C W F (evSs cf a))) (hb : PSs X eb (tS C W F (evSs cf b))) : PS X (.If ec ea eb p) (tS C W F (evS cf (.iff c a b))) := by
  refine (ps_if hc ha hb).imp fun D σ H h => ?_
  obtain ⟨en, μ, π, M, ow, R, hF, h⟩ := h
  rw [evS] at h
  refine (exS (rel := RB) (r := evT cf c) fm R hF h).mono fun u H1 ⟨v, μ1, π1, M1, R1, f1, s1, r, hp⟩ => ?_
  cases r
  cases u with
  | true => exact tS_of R1 f1 hp
  | false => exact tS_of R1 f1 hp
/-! ### loops -/
theorem whl_ok (fm : Frm F) {c : E} {b : List S} {ec : Expr} {eb : List Stmt} {p : Pos} (hp : PassesOwn (model X.prog X.w) X.A X.env X.xe) (hc : PT X ec (tT C W (evT cf c))) (hb : PSs X eb (tS C W F (evSs cf b))) : PS X (.While ec eb [] p) (tS C W F (evS cf (.whl c b))) := by
  refine (ps_while hp hc hb).imp fun D σ H h => ?_
  obtain ⟨en, μ, π, M, ow, R, hF, h⟩ := h
  rw [evS] at h
  refine ⟨fun m σ H => tS C W F (whlF (fun env μ => (evE cf c env μ).bind trR) (evSs cf b) m) D σ H, ⟨cf.fuel, tS_of R hF h⟩, ?_⟩
  clear R hF h
  rintro m σ H ⟨en, μ, π, M, ow, R, hF, h⟩
  cases m with
  | zero => exact h.elim
  | succ m =>
    rw [whlF] at h
    refine (exS (rel := RB) (r := evT cf c) fm R hF h).mono fun u H1 ⟨v, μ1, π1, M1, R1, f1, s1, r, hp⟩ => ?_
    cases r
    cases u with
    | false =>
      exact hp σ H1 π1 M1 R1 f1
    | true =>
      refine ⟨fun σ H => tS C W F (whlF (fun env μ => (evE cf c env μ).bind trR) (evSs cf b) m) D σ H, fun σ' H' q => ⟨m, Nat.lt_succ_self m, q⟩, tS_of R1 f1 ?_⟩
      rw [if_pos rfl] at hp
      cases eb : evSs cf b en μ1 with
      | err => rw [eb] at hp; exact hp.elim
      | exc cc fs en2 μ2 => rw [eb] at hp; exact hp
      | ok fl en2 μ2 =>
        rw [eb] at hp
        cases fl with
        | nx => exact fun σ2 H2 π2 M2 R2 f2 => tS_of R2 f2 hp
        | ct => exact fun σ2 H2 π2 M2 R2 f2 => tS_of R2 f2 hp
        | bk => exact hp
        | rt v => exact hp
        | ro v => exact hp
/-- a frame that holds a value besides -/
theorem frm_and (fm : Frm F) {v : PV} {u : V} : Frm (fun ow M π H => F ow M π H ∧ RI true C M π H v u) where
  st := fun h hs s => ⟨fm.st h.1 hs s, RI.sx (s.sx hs) h.2⟩
  pk := fun h a b c d e => ⟨fm.pk h.1 a b c d e, RI.sx (sx_poke a d e) h.2⟩
  bx := fun h a b => ⟨fm.bx h.1 a b, RI.sx ⟨⟨_, rfl⟩, fun _ h => .inl h, .refl⟩ h.2⟩
theorem postS.wk {F' : Fr} (hF : ∀ {ow M π H}, F' ow M π H → F ow M π H) {r : Out} {D : Ends} {ow : List Addr} (h : postS C W F ow r D) : postS C W F' ow r D := by
  cases r with
  | ok fl en μ =>
    cases fl with
    | nx => exact fun σ H π M R f => h σ H π M R (hF f)
    | bk => exact fun σ H π M R f => h σ H π M R (hF f)
    | ct => exact fun σ H π M R f => h σ H π M R (hF f)
    | rt v => exact fun u σ H π M R f r => h u σ H π M R (hF f) r
    | ro v => exact fun a σ H π M R f h1 h2 h3 r => h a σ H π M R (hF f) h1 h2 h3 r
  | exc c fs en μ => exact fun cls d σ H π M R f r => h cls d σ H π M R (hF f) r
  | err => exact h
theorem forr_ok (fm : Frm F) (hcalm : X.calm = true) {t : Tg} {it : E} {b : List S} {te ie : Expr} {eb : List Stmt} {p : Pos} (hp : PassesOwn (model X.prog X.w) X.A X.env X.xe) (hi : PI X te ie (tI C W true (evI cf it))) (hg : PG X te (gTg C t)) (hb : ∀ F', Frm F' → PSs X eb (tS C W F' (evSs cf b)))
    (hs : ∀ x, foldedSetIterable ie X.env x = pure x) : PS X (.For te ie eb [] p) (tS C W F (evS cf (.forr t it b))) := by
  have hb2 : PSs X eb (fun D σ H => ∃ F', Frm F' ∧ tS C W F' (evSs cf b) D σ H) := ⟨fun pins s σ H D I ⟨F', fm', h⟩ => (hb F' fm').run pins s σ H D I h⟩
  refine (ps_for hp hcalm hi hg hb2 hs).imp fun D σ H h => ?_
  obtain ⟨en, μ, π, M, ow, R, hF, h⟩ := h
  rw [evS] at h
  refine (exS (rel := relI true) (r := evI cf it) fm R hF h).mono fun pu H1 ⟨v, μ1, π1, M1, R1, f1, s1, ⟨FF, ri⟩, h1⟩ => ?_
  obtain ⟨u, J⟩ := pu
  have fm2 := frm_and (C := C) (v := v) (u := u) fm
  have wk : ∀ {ow M π H}, (F ow M π H ∧ RI true C M π H v u) → F ow M π H := fun h => h.1
  refine ⟨fun i m σ H => tS C W (fun ow M π H => F ow M π H ∧ RI true C M π H v u) (fun en μ => forF (assT t) (evSs cf b) v m i en μ) D σ H, ⟨itLen μ1 v, tS_of R1 ⟨f1, ri⟩ (postS.wk wk h1)⟩, ?_⟩
  clear R hF h h1 R1 f1 s1 ri
  rintro i m σ H ⟨en, μ, π, M, ow, R, ⟨hF, ri⟩, h⟩
  have h : postS C W (fun ow M π H => F ow M π H ∧ RI true C M π H v u) ow (forF (assT t) (evSs cf b) v m i en μ) D := h
  have it := items FF R (k := true) ri i
  rw [forF] at h
  cases e : itAt μ v i with
  | none => rw [e] at h; exact h.elim
  | some y =>
    rw [e] at h
    cases y with
    | none => exact .inl ⟨it.1 e, h σ H π M R ⟨hF, ri⟩⟩
    | some x =>
      obtain ⟨h1, h2⟩ := it.2 x e
      cases m with
      | zero => exact h.elim
      | succ m =>
        refine .inr ⟨h1, fun σ H => tS C W (fun ow M π H => F ow M π H ∧ RI true C M π H v u) (fun en μ => forF (assT t) (evSs cf b) v m (i + 1) en μ) D σ H, fun σ' H' q => ⟨m, Nat.lt_succ_self m, q⟩, fun w H' y => ?_⟩
        obtain ⟨e1, e2, rx⟩ := h2 w H' y
        have s2 : St M π H M π H' := .of e1 e2
        have h : postS C W (fun ow M π H => F ow M π H ∧ RI true C M π H v u) ow (match assT t x en with
          | none => .err
          | some env => match evSs cf b env μ with
            | .ok .nx env μ => forF (assT t) (evSs cf b) v m (i + 1) env μ
            | .ok .ct env μ => forF (assT t) (evSs cf b) v m (i + 1) env μ
            | .ok .bk env μ => .ok .nx env μ
            | r => r) D := h
        cases ea : assT t x en with
        | none => rw [ea] at h; exact h.elim
        | some en' =>
          rw [ea] at h
          dsimp only at h
          refine ⟨en, μ, π, M, ow, x, en', R.grow e1 e2, rx, ea, fun σ2 R2 _ => ⟨_, fm2, en', μ, π, M, ow, R2, fm2.st ⟨hF, ri⟩ R.sub s2, ?_⟩⟩
          cases eb : evSs cf b en' μ with
          | err => rw [eb] at h; exact h.elim
          | exc cc fs en2 μ2 => rw [eb] at h; exact h
          | ok fl en2 μ2 =>
            rw [eb] at h
            cases fl with
            | nx => exact fun σ2 H2 π2 M2 R2 f2 => tS_of R2 f2 h
            | ct => exact fun σ2 H2 π2 M2 R2 f2 => tS_of R2 f2 h
            | bk => exact h
            | rt v => exact h
            | ro v => exact h
end
end OL
end
section
set_option Elab.async false
set_option linter.all false
set_option maxRecDepth 100000
set_option maxHeartbeats 1000000
/-! OL, part t: a def's own lists; what the store holds. -/
namespace OL
open PySem PySem.Spec PyProof.Rows L2
section
variable {C : RC} {W : WX} {M π M' π' : List Addr} {ow : List Addr} {H H' : Hp} {en en' : Env} {σ σ' : L2.St} {μ μ' : Sto}
/-- a fresh thing becomes the def's own -/
theorem RA.setO (R : RA C M π ow H en σ μ) {v : PV} {x : V} (i : Nat) (hi : i < en.length) (r : RFr en σ ow C M π H v x) : RA C M π ow H (en.set i (some (.own v))) (σ.set i (some x)) μ := by
  obtain ⟨a, rfl, h1, h2, h3, h4, ro⟩ := r
  have at_ : ∀ (j : Nat) (w : PV), (en.set i (some (.own v)))[j]? = some (some w) → (j = i ∧ w = .own v) ∨ (j ≠ i ∧ en[j]? = some (some w)) := fun j w e => by
    by_cases z : i = j
    · subst z
      rw [List.getElem?_set_self hi] at e
      cases e
      exact .inl ⟨rfl, rfl⟩
    · rw [List.getElem?_set_ne z] at e
      exact .inr ⟨Ne.symm z, e⟩
  have hi2 : i < σ.length := by rw [R.len]; exact hi
  refine ⟨by simp [R.len], fun j w e => ?_, fun j k b c u e1 e2 e3 e4 => ?_, R.sto, R.sl, R.nd, R.sub, R.a0, R.trk⟩
  · rcases at_ j w e with ⟨rfl, rfl⟩ | ⟨n, e⟩
    · exact ⟨.ref a, List.getElem?_set_self hi2, a, rfl, h1, h2, h3, ro⟩
    · rw [List.getElem?_set_ne (Ne.symm n)]
      exact R.ev j w e
  · rcases at_ j _ e1 with ⟨rfl, q1⟩ | ⟨n1, e1'⟩
    · rcases at_ k _ e2 with ⟨rfl, q2⟩ | ⟨n2, e2'⟩
      · rfl
      · rw [List.getElem?_set_self hi2] at e3
        rw [List.getElem?_set_ne (Ne.symm n2)] at e4
        cases e3
        exact absurd e4 (h4 k c e2')
    · rcases at_ k _ e2 with ⟨rfl, q2⟩ | ⟨n2, e2'⟩
      · rw [List.getElem?_set_self hi2] at e4
        rw [List.getElem?_set_ne (Ne.symm n1)] at e3
        cases e4
        exact absurd e3 (h4 j b e1')
      · rw [List.getElem?_set_ne (Ne.symm n1)] at e3
        rw [List.getElem?_set_ne (Ne.symm n2)] at e4
        exact R.inj j k b c u e1' e2' e3 e4
/-- an own list, an own dict changes -/
theorem RA.chg (R : RA C M π ow H en σ μ) {v w : PV} {i : Nat} {a : Addr} {o o' : HO} (hi : en[i]? = some (some (.own v))) (hs : σ[i]? = some (some (.ref a))) (h : H a = some o) (m : Mt o) (ro : RO C M π (upd H a o') a w) :
    RA C M π ow (upd H a o') (en.set i (some (.own w))) σ μ := by
  obtain ⟨u, e1, b, e2, h1, h2, h3, _⟩ := R.ev i _ hi
  rw [hs] at e1
  cases e1
  cases e2
  have hl : i < en.length := (List.getElem?_eq_some_iff.mp hi).1
  have at_ : ∀ (j : Nat) (z : PV), (en.set i (some (.own w)))[j]? = some (some z) → (j = i ∧ z = .own w) ∨ (j ≠ i ∧ en[j]? = some (some z)) := fun j z e => by
    by_cases q : i = j
    · subst q
      rw [List.getElem?_set_self hl] at e
      cases e
      exact .inl ⟨rfl, rfl⟩
    · rw [List.getElem?_set_ne q] at e
      exact .inr ⟨Ne.symm q, e⟩
  refine ⟨by simp [R.len], fun j z e => ?_, fun j k b c u e1 e2 e3 e4 => ?_, fun j s e => ?_, R.sl, R.nd, R.sub, R.a0, fun b hb e => R.trk b hb (upd_bk b e)⟩
  · rcases at_ j z e with ⟨rfl, rfl⟩ | ⟨n, e⟩
    · exact ⟨.ref a, hs, a, rfl, h1, h2, h3, ro⟩
    · obtain ⟨u, q1, q2⟩ := R.ev j z e
      refine ⟨u, q1, ?_⟩
      cases z with
      | own y =>
        obtain ⟨b, rfl, g1, g2, g3, g4⟩ := q2
        refine ⟨b, rfl, g1, g2, g3, g4.poke h1 h m fun z => ?_⟩
        subst z
        exact n (R.inj j i y v _ e hi q1 hs)
      | _ => exact RE.sxx rfl (sx_poke (o' := o') h1 h m) q2
  · rcases at_ j _ e1 with ⟨rfl, q1⟩ | ⟨n1, e1'⟩
    · rcases at_ k _ e2 with ⟨rfl, q2⟩ | ⟨n2, e2'⟩
      · rfl
      · exact R.inj j k v c u hi e2' e3 e4
    · rcases at_ k _ e2 with ⟨rfl, q2⟩ | ⟨n2, e2'⟩
      · exact R.inj j k b v u e1' hi e3 e4
      · exact R.inj j k b c u e1' e2' e3 e4
  · obtain ⟨b, q1, q2⟩ := R.sto j s e
    refine ⟨b, q1, ?_⟩
    have n : b ≠ a := fun z => h2 (z ▸ List.mem_of_getElem? q1)
    cases s with
    | lst l => exact RO.poke (v := .lv l) h1 h m n q2
    | dct ks vs => exact RO.poke (v := .dv ks vs) h1 h m n q2
/-- a thing of the store changes -/
theorem RA.stor (R : RA C M π ow H en σ μ) {i : Nat} {s s' : SO} {a : Addr} {o o' : HO} (hs : μ[i]? = some s) (hp : π[i]? = some a) (h : H a = some o) (m : Mt o) (rs : RS C M π (upd H a o') a s') :
    RA C M π ow (upd H a o') en σ (μ.set i s') ∧ St M π H M π (upd H a o') := by
  have ha : a ∈ π := List.mem_of_getElem? hp
  have hm : a ∈ M := R.sub a ha
  have hil : i < μ.length := (List.getElem?_eq_some_iff.mp hs).1
  refine ⟨⟨R.len, fun j z e => ?_, R.inj, fun j t e => ?_, by simp [R.sl], R.nd, R.sub, R.a0, fun b hb e => R.trk b hb (upd_bk b e)⟩, ⟨⟨[], by simp⟩, fun _ h => h, fun _ h => .inl h, fun b u hb k => ?_, fun _ h => .inl h, upd_bk⟩⟩
  · obtain ⟨u, q1, q2⟩ := R.ev j z e
    refine ⟨u, q1, ?_⟩
    cases z with
    | own y =>
      obtain ⟨b, rfl, g1, g2, g3, g4⟩ := q2
      exact ⟨b, rfl, g1, g2, g3, g4.poke hm h m fun z => g2 (z ▸ ha)⟩
    | _ => exact RE.sxx rfl (sx_poke (o' := o') hm h m) q2
  · by_cases z : i = j
    · subst z
      rw [List.getElem?_set_self hil] at e
      cases e
      exact ⟨a, hp, rs⟩
    · rw [List.getElem?_set_ne z] at e
      obtain ⟨b, q1, q2⟩ := R.sto j t e
      refine ⟨b, q1, ?_⟩
      have n : b ≠ a := fun y => by
        subst y
        have h1 := (List.getElem?_eq_some_iff.mp hp)
        have h2 := (List.getElem?_eq_some_iff.mp q1)
        exact z ((List.getElem_inj R.nd).mp (h1.2.trans h2.2.symm))
      cases t with
      | lst l => exact RO.poke (v := .lv l) hm h m n q2
      | dct ks vs => exact RO.poke (v := .dv ks vs) hm h m n q2
  · by_cases z : b = a
    · subst z
      rw [h] at hb
      cases hb
      cases o <;> first | exact absurd ha k | exact absurd m (by simp [Mt])
    · rw [upd_ne z]; exact hb
end
section
variable {X : Cx} {g : G} {C : RC} {cf : CF} {W : WX} {F : Fr}
/-- what stands in an own slot -/
theorem own_at {M π ow : List Addr} {H : Hp} {en : Env} {σ : L2.St} {μ : Sto} (R : RA C M π ow H en σ μ) {i : Nat} {v : PV} (h : getO en i = some v) : en[i]? = some (some (.own v)) ∧ ∃ a, σ[i]? = some (some (.ref a)) ∧ a ∈ M ∧ a ∉ π ∧ a ∉ ow ∧ RO C M π H a v := by
  unfold getO at h
  obtain ⟨w, e1, e2⟩ := Option.bind_eq_some_iff.mp h
  cases w with
  | own z =>
    cases e2
    have e := slot_at e1
    obtain ⟨u, q1, a, rfl, h1, h2, h3, ro⟩ := R.ev i _ e
    exact ⟨e, a, q1, h1, h2, h3, ro⟩
  | _ => cases e2
/-- name = [..], name = {..}: of the def's own -/
theorem oasg_ok (o : GOk X g C cf W) (fm : Frm F) {i : Nat} {x : Str} {e : E} {ee : Expr} {p p2 : Pos} (h : PE X ee (tR C W RFr (evE cf e))) (hi : g.N[i]? = some x) (hl : locB g x = true) (hs : swapsWith ee (some (.Name x p2)) p.line X.env = pure false) :
    PS X (.Assign [.Name x p2] ee p) (tS C W F (evS cf (.oasg i e))) := by
  obtain ⟨l1, l2⟩ := loc_of o hl
  refine (ps_set (by rw [o.N]; exact o.nd) (by rw [o.N]; exact hi) l1 h hs l2).imp fun D σ H h => ?_
  obtain ⟨en, μ, π, M, ow, R, hF, h⟩ := h
  rw [evS] at h
  refine (exS (rel := RFr) fm R hF h).mono fun u H1 ⟨v, μ1, π1, M1, R1, f1, s1, r, hp⟩ => ?_
  unfold setO setSlot at hp
  split at hp
  · rename_i hlen
    exact hp _ H1 π1 M1 (R1.setO i hlen r) f1
  · exact hp.elim
end
end OL
end
section
set_option Elab.async false
set_option linter.all false
set_option maxRecDepth 100000
set_option maxHeartbeats 1000000
/-! OL, part u: append, extend, pop, stores by subscript. -/
namespace OL
open PySem PySem.Spec PyProof.Rows L2
section
variable {X : Cx} {g : G} {C : RC} {cf : CF} {W : WX} {F : Fr}
theorem RVs.last {M π : List Addr} {H : Hp} {l : List PV} {xs : List V} {v : PV} (r : RVs C M π H l xs) (e : l.getLast? = some v) : ∃ y, xs[xs.length - 1]? = some y ∧ RV C M π H v y := by
  rw [List.getLast?_eq_getElem?, r.length] at e
  exact r.get e
theorem RVs.dropLast {M π : List Addr} {H : Hp} {l : List PV} {xs : List V} (r : RVs C M π H l xs) : RVs C M π H l.dropLast xs.dropLast := by
  rw [List.dropLast_eq_take, List.dropLast_eq_take, r.length]
  exact r.take _
theorem oap_ok (o : GOk X g C cf W) (fm : Frm F) {i : Nat} {x : Str} {e : E} {ee : Expr} {p p2 p3 p4 : Pos} (h : PE X ee (tE C W true (evE cf e))) (hi : g.N[i]? = some x) (hv : visB g x = true) (hn : noStar ee = true) (hl : (p3.endLine == p4.line) = true) :
    PS X (.Expr (.Call (.Attribute (.Name x p2) "append" p3) [ee] [] p4) p) (tS C W F (evS cf (.oap i e))) := by
  obtain ⟨v1, v2⟩ := vis_of o hv
  obtain ⟨n1, n2, _⟩ := okNm_all v2
  refine (ps_expr (pe_bm PySem.F.plainAttrs_list PySem.F.slot_list_append PySem.F.type_list_append mt_append (pe_var (i := i) (by rw [o.N]; exact hi) v1 n1 n2) (pa_cons h pa_nil (star_of hn _ _)) (by rfl) (by rw [star_of hn]; rfl) hl (star_of hn _ _) (by rfl))).imp fun D σ H h => ?_
  obtain ⟨en, μ, π, M, ow, R, hF, h⟩ := h
  rw [evS] at h
  split at h
  · rename_i l hg
    obtain ⟨ei, a, hs, h1, h2, h3, xs, hx, rs⟩ := own_at R hg
    refine ⟨_, hs, .inl ⟨rfl, xs, .inl (.inl hx)⟩, ?_⟩
    refine (exS (rel := RKr true) fm R hF h).mono fun u H1 ⟨v, μ1, π1, M1, R1, f1, s1, r, hp⟩ => ?_
    obtain ⟨ei1, a1, hs1, g1, g2, g3, xs1, hx1, rs1⟩ := own_at R1 hg
    rw [hs] at hs1
    cases hs1
    have hp : postS C W F ow (nxO ((if l.length < SZ then some (PV.lv (l ++ [v])) else none).bind (setO en i)) μ1) D := hp
    split at hp
    · rename_i hz
      have hl := rs1.length
      refine ⟨a, xs1, u, rfl, rfl, hx1, by rw [← hl, ← szl]; exact hz, ?_⟩
      have hlen : i < en.length := (List.getElem?_eq_some_iff.mp ei1).1
      have r : RV C M1 π1 H1 v u := r
      have sx := sx_poke (π := π1) (o' := .lst (xs1 ++ [u])) g1 hx1 trivial
      have R2 := R1.chg (w := .lv (l ++ [v])) (o' := .lst (xs1 ++ [u])) ei1 hs hx1 trivial ⟨_, upd_same, RVs.append (rs1.sx sx) (.cons (r.sx sx) .nil)⟩
      unfold setO setSlot at hp
      rw [Option.bind_some, if_pos hlen] at hp
      exact hp σ _ π1 M1 R2 (fm.pk f1 g1 g2 g3 hx1 trivial)
    · exact hp.elim
  · exact h.elim
theorem oex_ok (o : GOk X g C cf W) (fm : Frm F) {i : Nat} {x : Str} {e : E} {ee : Expr} {p p2 p3 p4 : Pos} (h : PE X ee (tE C W true (evE cf e))) (hi : g.N[i]? = some x) (hv : visB g x = true) (hn : noStar ee = true) (hl : (p3.endLine == p4.line) = true) :
    PS X (.Expr (.Call (.Attribute (.Name x p2) "extend" p3) [ee] [] p4) p) (tS C W F (evS cf (.oex i e))) := by
  obtain ⟨v1, v2⟩ := vis_of o hv
  obtain ⟨n1, n2, _⟩ := okNm_all v2
  refine (ps_expr (pe_bm PySem.F.plainAttrs_list PySem.F.slot_list_extend PySem.F.type_list_extend mt_extend (pe_var (i := i) (by rw [o.N]; exact hi) v1 n1 n2) (pa_cons h pa_nil (star_of hn _ _)) (by rfl) (by rw [star_of hn]; rfl) hl (star_of hn _ _) (by rfl))).imp fun D σ H h => ?_
  obtain ⟨en, μ, π, M, ow, R, hF, h⟩ := h
  rw [evS] at h
  split at h
  · rename_i l hg
    obtain ⟨ei, a, hs, h1, h2, h3, xs, hx, rs⟩ := own_at R hg
    refine ⟨_, hs, .inl ⟨rfl, xs, .inl (.inl hx)⟩, ?_⟩
    refine (exS (rel := RKr true) fm R hF h).mono fun u H1 ⟨v, μ1, π1, M1, R1, f1, s1, r, hp⟩ => ?_
    obtain ⟨ei1, a1, hs1, g1, g2, g3, xs1, hx1, rs1⟩ := own_at R1 hg
    rw [hs] at hs1
    cases hs1
    have r : RV C M1 π1 H1 v u := r
    cases v with
    | lv l2 =>
      have hp : postS C W F ow (nxO ((if l.length + l2.length ≤ SZ then some (PV.lv (l ++ l2)) else none).bind (setO en i)) μ1) D := hp
      split at hp
      · rename_i hz
        unfold RV at r
        obtain ⟨b, zs, rfl, nb, hb, rz⟩ := r
        have hl := rs1.length
        have hl2 := rz.length
        refine ⟨a, b, xs1, zs, rfl, rfl, hx1, hb, by rw [← hl, ← hl2, ← szl]; exact hz, ?_⟩
        have hlen : i < en.length := (List.getElem?_eq_some_iff.mp ei1).1
        have sx := sx_poke (π := π1) (o' := .lst (xs1 ++ zs)) g1 hx1 trivial
        have R2 := R1.chg (w := .lv (l ++ l2)) (o' := .lst (xs1 ++ zs)) ei1 hs hx1 trivial ⟨_, upd_same, RVs.append (rs1.sx sx) (rz.sx sx)⟩
        unfold setO setSlot at hp
        rw [Option.bind_some, if_pos hlen] at hp
        exact hp σ _ π1 M1 R2 (fm.pk f1 g1 g2 g3 hx1 trivial)
      · exact hp.elim
    | _ => exact hp.elim
  · exact h.elim
theorem opo_ok (o : GOk X g C cf W) (fm : Frm F) {t : Tg} {i : Nat} {x : Str} {te : Expr} {p p2 p3 p4 : Pos} (hg : PG X te (gTg C t)) (hi : g.N[i]? = some x) (hv : visB g x = true) (hl : (p3.endLine == p4.line) = true)
    (hs : swapsWithSole [te] (.Call (.Attribute (.Name x p2) "pop" p3) [] [] p4) p.line X.env = pure false) (hw : swappedStores [te] (.Call (.Attribute (.Name x p2) "pop" p3) [] [] p4) X.env = pure none) (h1 : (assignEach [te] X.env).map (·.2) = [assign te X.env]) :
    PS X (.Assign [te] (.Call (.Attribute (.Name x p2) "pop" p3) [] [] p4) p) (tS C W F (evS cf (.opo t i))) := by
  obtain ⟨v1, v2⟩ := vis_of o hv
  obtain ⟨n1, n2, _⟩ := okNm_all v2
  refine (ps_asg (pe_bm0 PySem.F.plainAttrs_list PySem.F.slot_list_pop PySem.F.type_list_pop mt_pop (pe_var (i := i) (by rw [o.N]; exact hi) v1 n1 n2) (by rfl) hl) hg hs hw h1).imp fun D σ H h => ?_
  obtain ⟨en, μ, π, M, ow, R, hF, h⟩ := h
  rw [evS] at h
  split at h
  · rename_i l hgo
    obtain ⟨ei, a, hs, h1, h2, h3, xs, hx, rs⟩ := own_at R hgo
    refine ⟨_, hs, .inl ⟨rfl, xs, .inl (.inl hx)⟩, ?_⟩
    split at h
    · rename_i v ev
      obtain ⟨y, hy, ry⟩ := RVs.last rs ev
      have hlen : i < en.length := (List.getElem?_eq_some_iff.mp ei).1
      have sx := sx_poke (π := π) (o' := .lst xs.dropLast) h1 hx trivial
      have R2 := R.chg (w := .lv l.dropLast) (o' := .lst xs.dropLast) ei hs hx trivial ⟨_, upd_same, (RVs.dropLast rs).sx sx⟩
      unfold setO setSlot at h
      rw [if_pos hlen, Option.bind_some] at h
      refine ⟨a, xs, y, rfl, rfl, hx, hy, ?_⟩
      cases ea : assT t v (en.set i (some (.own (.lv l.dropLast)))) with
      | none => rw [ea] at h; exact h.elim
      | some en' =>
        rw [ea] at h
        exact ⟨_, μ, π, M, ow, v, en', R2, ry.sx sx, ea, fun σ' R' _ => h σ' _ π M R' (fm.pk hF h1 h2 h3 hx trivial)⟩
    · exact h.elim
  · exact h.elim
/-! ### stores by subscript -/
/-- o[i] = v of a list, of a dict -/
def rSet2 : TSet := fun o i v H Q => (∃ p xs k j, o = .ref p ∧ i = .int k ∧ H p = some (.lst xs) ∧ ixN xs.length k = some j ∧ Q (upd H p (.lst (xs.set j v)))) ∨ ∃ a H', o = .ref a ∧ DPut H a i v H' ∧ Q H'
theorem set_two (hu : X.A.units + 1 < cLine) : PSet X rSet2 := by
  intro pins s σ H o i v ov iv u Q I ro ri rv h
  rcases h with h | ⟨a, H', rfl, g, q⟩
  · exact set_list pins s σ H o i v ov iv u Q I ro ri rv h
  · cases ro
    exact d_setItem hu I g ri rv fun s' I' => ⟨H', I', q⟩
theorem sub_assign {oe ie : Expr} {env : PySem.Env} {pos : Pos} (h : noSlice ie = true) (v : Value) : assign (.Subscript oe ie pos) env v = (do
      let ov ← holding [v] (eval oe env)
      let iv ← holding [v, ov] (eval ie env)
      standAt pos
      holding [v, ov, iv] (setItem ov iv v)
      release [v, ov, iv] []) := by
  cases ie <;> first | rfl | cases h
/-- found[i] = v, found of the def's own -/
theorem osi_ok (o : GOk X g C cf W) (fm : Frm F) {i : Nat} {x : Str} {k e : E} {ke ee : Expr} {p p2 p3 : Pos} (h : PE X ee (tE C W true (evE cf e))) (hk : PE X ke (tE C W false (evE cf k))) (hi : g.N[i]? = some x) (hv : visB g x = true) (hn : noSlice ke = true)
    (hs : swapsWithSole [.Subscript (.Name x p2) ke p3] ee p.line X.env = pure false) (hw : swappedStores [.Subscript (.Name x p2) ke p3] ee X.env = pure none) :
    PS X (.Assign [.Subscript (.Name x p2) ke p3] ee p) (tS C W F (evS cf (.osi i k e))) := by
  obtain ⟨v1, v2⟩ := vis_of o hv
  obtain ⟨n1, n2, _⟩ := okNm_all v2
  have hu := o.un
  refine (ps_asg h (pg_sub (pe_var (i := i) (by rw [o.N]; exact hi) v1 n1 n2) hk (set_two (by omega)) (sub_assign hn)) hs hw (by rfl)).imp fun D σ H h => ?_
  obtain ⟨en, μ, π, M, ow, R, hF, h⟩ := h
  rw [evS] at h
  refine (exS (rel := RKr true) fm R hF h).mono fun u H1 ⟨v, μ1, π1, M1, R1, f1, s1, r, h1⟩ => ?_
  have r : RV C M1 π1 H1 v u := r
  -- the slot
  have own : ∀ {w : PV}, getO en i = some w → ∃ a, σ[i]? = some (some (.ref a)) := fun {w} hg => by
    obtain ⟨_, a, hs, _⟩ := own_at R1 hg
    exact ⟨a, hs⟩
  cases hg : getO en i with
  | none =>
    rw [hg] at h1
    exact h1.elim
  | some w =>
    rw [hg] at h1
    obtain ⟨a, hs0⟩ := own hg
    refine ⟨_, hs0, ?_⟩
    refine (exS (rel := RKr false) fm R1 f1 h1).mono fun y H2 ⟨kv, μ2, π2, M2, R2, f2, s2, rk, h2⟩ => ?_
    have r2 := r.st s2 R1.sub
    have rk := RK.rw (k := false) R2.sub rk
    obtain ⟨ei, a', hs', g1, g2, g3, ro⟩ := own_at R2 hg
    rw [hs0] at hs'
    cases hs'
    have hlen : i < en.length := (List.getElem?_eq_some_iff.mp ei).1
    have hp : postS C W F ow (nxO ((setV w kv v).bind (setO en i)) μ2) D := h2
    cases w with
    | lv l =>
      cases kv with
      | int j =>
        have e1 := rv_int rk
        subst e1
        obtain ⟨xs, hx, rs⟩ := ro
        have hp : postS C W F ow (nxO (((ixN l.length j).map fun n => PV.lv (l.set n v)).bind (setO en i)) μ2) D := hp
        cases en' : ixN l.length j with
        | none => rw [en'] at hp; exact hp.elim
        | some n =>
          rw [en'] at hp
          rw [rs.length] at en'
          have sx := sx_poke (π := π2) (o' := .lst (xs.set n u)) g1 hx trivial
          have R3 := R2.chg (w := .lv (l.set n v)) (o' := .lst (xs.set n u)) ei hs0 hx trivial ⟨_, upd_same, (rs.set n r2).sx sx⟩
          unfold setO setSlot at hp
          rw [Option.map_some, Option.bind_some, if_pos hlen] at hp
          exact .inl ⟨a, xs, j, n, rfl, rfl, hx, en', hp σ _ π2 M2 R3 (fm.pk f2 g1 g2 g3 hx trivial)⟩
      | _ => exact hp.elim
    | dv ks vs =>
      obtain ⟨xs, hx, hl, rs⟩ := ro
      have hp : postS C W F ow (nxO (((keyOf kv).bind fun q => if ks.length < SZ then some (PV.dv (putK ks vs q v).1 (putK ks vs q v).2) else none).bind (setO en i)) μ2) D := hp
      cases ek : keyOf kv with
      | none => rw [ek] at hp; exact hp.elim
      | some q =>
        rw [ek, Option.bind_some] at hp
        split at hp
        · rename_i hz
          obtain ⟨ys, p1, p2, p3⟩ := put_rv q r2 hl rs
          have e1 := key_rv ek rk
          subst e1
          have sx := sx_poke (π := π2) (o' := .dK ((putK ks vs q v).1.zip ys)) g1 hx trivial
          have R3 := R2.chg (w := .dv (putK ks vs q v).1 (putK ks vs q v).2) (o' := .dK ((putK ks vs q v).1.zip ys)) ei hs0 hx trivial ⟨ys, upd_same, p2, p3.sx sx⟩
          unfold setO setSlot at hp
          rw [Option.bind_some, if_pos hlen] at hp
          refine .inr ⟨a, _, rfl, .k hx ?_, ?_⟩
          · rw [List.length_zip, ← hl, Nat.min_self, ← szl]; exact hz
          · rw [p1]
            exact hp σ _ π2 M2 R3 (fm.pk f2 g1 g2 g3 hx trivial)
        · exact hp.elim
    | _ => exact ro.elim
/-- x[i] = v, x a thing of the store -/
theorem asi_ok (o : GOk X g C cf W) (fm : Frm F) {a k e : E} {ae ke ee : Expr} {p p3 : Pos} (h : PE X ee (tE C W true (evE cf e))) (ha : PE X ae (tE C W false (evE cf a))) (hk : PE X ke (tE C W false (evE cf k))) (hn : noSlice ke = true)
    (hs : swapsWithSole [.Subscript ae ke p3] ee p.line X.env = pure false) (hw : swappedStores [.Subscript ae ke p3] ee X.env = pure none) :
    PS X (.Assign [.Subscript ae ke p3] ee p) (tS C W F (evS cf (.asi a k e))) := by
  have hu := o.un
  refine (ps_asg h (pg_sub ha hk (set_two (by omega)) (sub_assign hn)) hs hw (by rfl)).imp fun D σ H h => ?_
  obtain ⟨en, μ, π, M, ow, R, hF, h⟩ := h
  rw [evS] at h
  refine (exS (rel := RKr true) fm R hF h).mono fun u H1 ⟨v, μ1, π1, M1, R1, f1, s1, r, h1⟩ => ?_
  have r : RV C M1 π1 H1 v u := r
  refine (exS (rel := RKr false) fm R1 f1 h1).mono fun x H2 ⟨w, μ2, π2, M2, R2, f2, s2, rw2, h2⟩ => ?_
  refine (exS (rel := RKr false) fm R2 f2 h2).mono fun y H3 ⟨kv, μ3, π3, M3, R3, f3, s3, rk, hp⟩ => ?_
  have r2 := (r.st s2 R1.sub).st s3 R2.sub
  have rk := RK.rw (k := false) R3.sub rk
  have rx := RW.st s3 R2.sub R3.sub (RK.rw (k := false) R2.sub rw2)
  have hp : postS C W F ow (match setM w kv v μ3 with
      | some μ => .ok .nx en μ
      | none => .err) D := hp
  cases w with
  | ref i =>
    obtain ⟨ad, had, rfl⟩ := rv_ref rx
    cases hm : μ3[i]? with
    | none =>
      have e : setM (.ref i) kv v μ3 = none := by simp only [setM, hm]
      rw [e] at hp
      exact hp.elim
    | some so =>
      obtain ⟨a', ha', rs⟩ := R3.sto i so hm
      rw [had] at ha'
      cases ha'
      have hmM := R3.sub ad (List.mem_of_getElem? had)
      cases so with
      | lst l =>
        obtain ⟨xs, hx, rs⟩ := rs
        cases kv with
        | int j =>
          have e1 := rv_int rk
          subst e1
          have e : setM (.ref i) (.int j) v μ3 = (ixN l.length j).map fun n => μ3.set i (.lst (l.set n v)) := by simp only [setM, hm]
          rw [e] at hp
          cases en' : ixN l.length j with
          | none => rw [en'] at hp; exact hp.elim
          | some n =>
            rw [en'] at hp
            rw [rs.length] at en'
            have sx := sx_poke (π := π3) (o' := .lst (xs.set n u)) hmM hx trivial
            obtain ⟨R4, s4⟩ := R3.stor (s' := .lst (l.set n v)) (o' := .lst (xs.set n u)) hm had hx trivial ⟨_, upd_same, (rs.set n r2).sx sx⟩
            exact .inl ⟨ad, xs, j, n, rfl, rfl, hx, en', hp σ _ π3 M3 R4 (fm.st f3 R3.sub s4)⟩
        | _ =>
          simp only [setM, hm] at hp
          exact hp.elim
      | dct ks vs =>
        obtain ⟨xs, hx, hl, rs⟩ := rs
        cases kv with
        | str j =>
          have e1 := rv_str rk
          subst e1
          have e : setM (.ref i) (.str j) v μ3 = if ks.length < 1000 then some (μ3.set i (.dct (putK ks vs (.inr j) v).1 (putK ks vs (.inr j) v).2)) else none := by simp only [setM, hm]
          rw [e] at hp
          split at hp
          · rename_i hz
            split at hz
            · rename_i hz2
              cases hz
              obtain ⟨ys, p1, p2, p3⟩ := put_rv (.inr j) r2 hl rs
              have sx := sx_poke (π := π3) (o' := .dK ((putK ks vs (.inr j) v).1.zip ys)) hmM hx trivial
              obtain ⟨R4, s4⟩ := R3.stor (s' := .dct (putK ks vs (.inr j) v).1 (putK ks vs (.inr j) v).2) (o' := .dK ((putK ks vs (.inr j) v).1.zip ys)) hm had hx trivial ⟨ys, upd_same, p2, p3.sx sx⟩
              refine .inr ⟨ad, _, rfl, DPut.k (k := .inr j) hx ?_, ?_⟩
              · rw [List.length_zip, ← hl, Nat.min_self, ← szl]
                have : (1000 : Nat) ≤ SZ := by decide
                omega
              · rw [p1]
                exact hp σ _ π3 M3 R4 (fm.st f3 R3.sub s4)
            · cases hz
          · exact hp.elim
        | _ =>
          simp only [setM, hm] at hp
          exact hp.elim
  | _ => exact hp.elim
/-- a new thing goes to the store -/
theorem RA.boxed {M π ow : List Addr} {H : Hp} {en : Env} {σ : L2.St} {μ : Sto} {v : PV} {u : V} (R : RA C M π ow H en σ μ) (r : RFr en σ ow C M π H v u) :
    ∃ a so, u = .ref a ∧ a ∈ M ∧ a ∉ ow ∧ boxV v μ = .ok (.ref μ.length) (μ ++ [so]) ∧ RA C M (π ++ [a]) ow H en σ (μ ++ [so]) ∧ RV C M (π ++ [a]) H (.ref μ.length) (.ref a) := by
  obtain ⟨a, rfl, h1, h2, h3, h4, ro⟩ := r
  have sx : Sx M π H M (π ++ [a]) H := ⟨⟨_, rfl⟩, fun _ h => .inl h, .refl⟩
  have key : ∀ so, boxV v μ = .ok (.ref μ.length) (μ ++ [so]) → RS C M (π ++ [a]) H a so → RA C M (π ++ [a]) ow H en σ (μ ++ [so]) := fun so _ rs => by
    refine ⟨R.len, fun i w e => ?_, R.inj, fun i o e => ?_, by simp [R.sl], ?_, fun b hb => ?_, R.a0, R.trk⟩
    · obtain ⟨x, q1, q2⟩ := R.ev i w e
      refine ⟨x, q1, ?_⟩
      cases w with
      | own y =>
        obtain ⟨b, rfl, g1, g2, g3, g4⟩ := q2
        refine ⟨b, rfl, g1, fun z => ?_, g3, ?_⟩
        · rcases List.mem_append.mp z with z | z
          · exact g2 z
          · rw [List.mem_singleton] at z
            subst z
            exact h4 i y e q1
        · cases y with
          | lv l => exact ⟨_, g4.choose_spec.1, g4.choose_spec.2.sx sx⟩
          | dv ks vs => exact ⟨_, g4.choose_spec.1, g4.choose_spec.2.1, g4.choose_spec.2.2.sx sx⟩
          | _ => exact g4.elim
      | _ => exact RE.sxx rfl sx q2
    · by_cases c : i < μ.length
      · rw [List.getElem?_append_left c] at e
        obtain ⟨b, q1, q2⟩ := R.sto i o e
        refine ⟨b, by rw [List.getElem?_append_left (by rw [R.sl]; exact c)]; exact q1, ?_⟩
        cases o with
        | lst l => exact ⟨_, q2.choose_spec.1, q2.choose_spec.2.sx sx⟩
        | dct ks vs => exact ⟨_, q2.choose_spec.1, q2.choose_spec.2.1, q2.choose_spec.2.2.sx sx⟩
      · rw [List.getElem?_append_right (Nat.not_lt.mp c)] at e
        have c2 : i - μ.length = 0 := by
          rcases Nat.eq_zero_or_pos (i - μ.length) with z | z
          · exact z
          · rw [List.getElem?_eq_none (by have y : 1 ≤ i - μ.length := z; simpa using y)] at e; cases e
        rw [c2] at e
        cases e
        refine ⟨a, ?_, rs⟩
        rw [List.getElem?_append_right (by rw [R.sl]; exact Nat.not_lt.mp c), R.sl, c2]
        rfl
    · rw [List.nodup_append]
      refine ⟨R.nd, by simp, fun x hx y hy => ?_⟩
      rw [List.mem_singleton] at hy
      subst hy
      exact fun z => h2 (z ▸ hx)
    · rcases List.mem_append.mp hb with hb | hb
      · exact R.sub b hb
      · rw [List.mem_singleton.mp hb]; exact h1
  have rv : RV C M (π ++ [a]) H (.ref μ.length) (.ref a) := by
    unfold RV
    exact ⟨a, by rw [List.getElem?_append_right (by rw [R.sl]; exact Nat.le_refl _), R.sl, Nat.sub_self]; rfl, rfl⟩
  cases v with
  | lv l =>
    obtain ⟨xs, e, rs⟩ := ro
    exact ⟨a, .lst l, rfl, h1, h3, rfl, key _ rfl ⟨xs, e, rs.sx sx⟩, rv⟩
  | dv ks vs =>
    obtain ⟨xs, e, hl, rs⟩ := ro
    exact ⟨a, .dct ks vs, rfl, h1, h3, rfl, key _ rfl ⟨xs, e, hl, rs.sx sx⟩, rv⟩
  | _ => exact ro.elim
/-- name = a new thing of the store -/
theorem obx_ok (o : GOk X g C cf W) (fm : Frm F) {i : Nat} {x : Str} {e : E} {ee : Expr} {p p2 : Pos} (h : PE X ee (tR C W RFr (evE cf e))) (hi : g.N[i]? = some x) (hl : locB g x = true) (hs : swapsWith ee (some (.Name x p2)) p.line X.env = pure false) :
    PS X (.Assign [.Name x p2] ee p) (tS C W F (evS cf (.obx i e))) := by
  obtain ⟨l1, l2⟩ := loc_of o hl
  refine (ps_set (by rw [o.N]; exact o.nd) (by rw [o.N]; exact hi) l1 h hs l2).imp fun D σ H h => ?_
  obtain ⟨en, μ, π, M, ow, R, hF, h⟩ := h
  rw [evS] at h
  refine (exS (rel := RFr) fm R hF h).mono fun u H1 ⟨v, μ1, π1, M1, R1, f1, s1, r, hp⟩ => ?_
  obtain ⟨a, so, rfl, g1, g2, eb, R2, rv⟩ := R1.boxed r
  rw [eb] at hp
  have hp : postS C W F ow (nxO (setSlot en i (.ref μ1.length)) (μ1 ++ [so])) D := hp
  unfold setSlot at hp
  split at hp
  · exact hp _ H1 _ M1 (R2.setv i rv) (fm.bx f1 g1 g2)
  · exact hp.elim
/-- x[i] = a new thing of the store, x a thing of the store -/
theorem abx_ok (o : GOk X g C cf W) (fm : Frm F) {a k e : E} {ae ke ee : Expr} {p p3 : Pos} (h : PE X ee (tR C W RFr (evE cf e))) (ha : PE X ae (tE C W false (evE cf a))) (hk : PE X ke (tE C W false (evE cf k))) (hn : noSlice ke = true)
    (hs : swapsWithSole [.Subscript ae ke p3] ee p.line X.env = pure false) (hw : swappedStores [.Subscript ae ke p3] ee X.env = pure none) :
    PS X (.Assign [.Subscript ae ke p3] ee p) (tS C W F (evS cf (.abx a k e))) := by
  have hu := o.un
  refine (ps_asg h (pg_sub ha hk (set_two (by omega)) (sub_assign hn)) hs hw (by rfl)).imp fun D σ H h => ?_
  obtain ⟨en, μ, π, M, ow, R, hF, h⟩ := h
  rw [evS] at h
  refine (exS (rel := RFr) fm R hF h).mono fun u H1 ⟨w0, μ0, π0, M1, R0, f0, s1, r0, h1⟩ => ?_
  obtain ⟨ad0, so0, hu, g01, g02, eb, R1, r⟩ := R0.boxed r0
  rw [← hu] at r
  rw [eb] at h1
  have f1 := fm.bx f0 g01 g02
  generalize PV.ref μ0.length = v at r h1
  refine (exS (rel := RKr false) fm R1 f1 h1).mono fun x H2 ⟨w, μ2, π2, M2, R2, f2, s2, rw2, h2⟩ => ?_
  refine (exS (rel := RKr false) fm R2 f2 h2).mono fun y H3 ⟨kv, μ3, π3, M3, R3, f3, s3, rk, hp⟩ => ?_
  have r2 := (r.st s2 R1.sub).st s3 R2.sub
  have rk := RK.rw (k := false) R3.sub rk
  have rx := RW.st s3 R2.sub R3.sub (RK.rw (k := false) R2.sub rw2)
  have hp : postS C W F ow (match setM w kv v μ3 with
      | some μ => .ok .nx en μ
      | none => .err) D := hp
  cases w with
  | ref i =>
    obtain ⟨ad, had, rfl⟩ := rv_ref rx
    cases hm : μ3[i]? with
    | none =>
      have e : setM (.ref i) kv v μ3 = none := by simp only [setM, hm]
      rw [e] at hp
      exact hp.elim
    | some so =>
      obtain ⟨a', ha', rs⟩ := R3.sto i so hm
      rw [had] at ha'
      cases ha'
      have hmM := R3.sub ad (List.mem_of_getElem? had)
      cases so with
      | lst l =>
        obtain ⟨xs, hx, rs⟩ := rs
        cases kv with
        | int j =>
          have e1 := rv_int rk
          subst e1
          have e : setM (.ref i) (.int j) v μ3 = (ixN l.length j).map fun n => μ3.set i (.lst (l.set n v)) := by simp only [setM, hm]
          rw [e] at hp
          cases en' : ixN l.length j with
          | none => rw [en'] at hp; exact hp.elim
          | some n =>
            rw [en'] at hp
            rw [rs.length] at en'
            have sx := sx_poke (π := π3) (o' := .lst (xs.set n u)) hmM hx trivial
            obtain ⟨R4, s4⟩ := R3.stor (s' := .lst (l.set n v)) (o' := .lst (xs.set n u)) hm had hx trivial ⟨_, upd_same, (rs.set n r2).sx sx⟩
            exact .inl ⟨ad, xs, j, n, rfl, rfl, hx, en', hp σ _ π3 M3 R4 (fm.st f3 R3.sub s4)⟩
        | _ =>
          simp only [setM, hm] at hp
          exact hp.elim
      | dct ks vs =>
        obtain ⟨xs, hx, hl, rs⟩ := rs
        cases kv with
        | str j =>
          have e1 := rv_str rk
          subst e1
          have e : setM (.ref i) (.str j) v μ3 = if ks.length < 1000 then some (μ3.set i (.dct (putK ks vs (.inr j) v).1 (putK ks vs (.inr j) v).2)) else none := by simp only [setM, hm]
          rw [e] at hp
          split at hp
          · rename_i hz
            split at hz
            · rename_i hz2
              cases hz
              obtain ⟨ys, p1, p2, p3⟩ := put_rv (.inr j) r2 hl rs
              have sx := sx_poke (π := π3) (o' := .dK ((putK ks vs (.inr j) v).1.zip ys)) hmM hx trivial
              obtain ⟨R4, s4⟩ := R3.stor (s' := .dct (putK ks vs (.inr j) v).1 (putK ks vs (.inr j) v).2) (o' := .dK ((putK ks vs (.inr j) v).1.zip ys)) hm had hx trivial ⟨ys, upd_same, p2, p3.sx sx⟩
              refine .inr ⟨ad, _, rfl, DPut.k (k := .inr j) hx ?_, ?_⟩
              · rw [List.length_zip, ← hl, Nat.min_self, ← szl]
                have : (1000 : Nat) ≤ SZ := by decide
                omega
              · rw [p1]
                exact hp σ _ π3 M3 R4 (fm.st f3 R3.sub s4)
            · cases hz
          · exact hp.elim
        | _ =>
          simp only [setM, hm] at hp
          exact hp.elim
  | _ => exact hp.elim
/-- name op= e -/
def augOk : Bop → Bool
  | .add => true
  | .sub => true
  | _ => false
theorem aug_ok (o : GOk X g C cf W) (fm : Frm F) {i : Nat} {x : Str} {b : Bop} {e : E} {ee : Expr} {p p2 : Pos} (h : PE X ee (tE C W false (evE cf e))) (hi : g.N[i]? = some x) (hl : locB g x = true) (hb : augOk b = true) :
    PS X (.AugAssign (.Name x p2) (opM b) ee p) (tS C W F (evS cf (.aug i b e))) := by
  obtain ⟨l1, l2⟩ := loc_of o hl
  have key : ∀ {ti : TIp} {f : Int → Int → Int}, ti = ipI f → (∀ i j, intOp b i j = some (f i j)) → PIp X (opM b) ti → PS X (.AugAssign (.Name x p2) (opM b) ee p) (tS C W F (evS cf (.aug i b e))) := fun {ti f} et hf hpi => by
    subst et
    refine (ps_aug (by rw [o.N]; exact o.nd) (by rw [o.N]; exact hi) l1 h hpi l2).imp fun D σ H h => ?_
    obtain ⟨en, μ, π, M, ow, R, hF, h⟩ := h
    rw [evS] at h
    cases ev : (slot en i).bind plain with
    | none => rw [ev] at h; exact h.elim
    | some w =>
      rw [ev] at h
      obtain ⟨w0, e1, e2⟩ := Option.bind_eq_some_iff.mp ev
      obtain ⟨u0, hs, r0⟩ := R.ev i w0 (slot_at e1)
      have r0 := plain_re e2 r0
      refine ⟨u0, hs, ?_⟩
      have h : postS C W F ow ((evE cf e en μ).thn en fun v μ => (augM b w v μ).thn en fun v μ => nxO (setSlot en i v) μ) D := h
      refine (exS (rel := RKr false) fm R hF h).mono fun u H1 ⟨v, μ1, π1, M1, R1, f1, s1, r, hp⟩ => ?_
      have r := RK.rw (k := false) R1.sub r
      cases w with
      | int a =>
        have e3 : u0 = .int a := r0
        subst e3
        cases v with
        | int c =>
          have e4 := rv_int r
          subst e4
          have hp : postS C W F ow ((match intOp b a c with
            | some k => (Res.ok (PV.int k) μ1)
            | none => .err).thn en fun v μ => nxO (setSlot en i v) μ) D := hp
          rw [hf] at hp
          refine ⟨a, c, rfl, rfl, ?_⟩
          have hp : postS C W F ow (nxO (setSlot en i (.int (f a c))) μ1) D := hp
          unfold setSlot at hp
          split at hp
          · exact hp _ H1 π1 M1 (R1.setv i (by unfold RV; rfl)) f1
          · exact hp.elim
        | _ => exact hp.elim
      | _ => cases v <;> exact hp.elim
  cases b <;> first | (cases hb; done) | skip
  · exact key rfl (fun i j => rfl) ip_add
  · exact key rfl (fun i j => rfl) ip_sub
end
end OL
end
section
set_option Elab.async false
set_option linter.all false
set_option maxRecDepth 100000
set_option maxHeartbeats 1000000
/-! OL, part v: several names at once; comprehensions that go to a plain name. -/
namespace OL
open PySem PySem.Spec PyProof.Rows L2
/-! ### where the model stores in another way -/
def swW (g : G) (tg e : Expr) : Bool := match (match e with
    | .ListComp _ _ s _ => some s
    | .SetComp _ _ s _ => some s
    | .DictComp _ _ _ s _ => some s
    | _ => none) with
  | none => false
  | some s => match tg with
    | .Name x p => decide (g.sc.names.lookup x = some .local) && p.line == e.pos.line && !(s.names.any fun (n, k) => n == x && (k == .local || k == .cell))
    | _ => false
def starred : Expr → Bool
  | .Starred _ _ => true
  | _ => false
def locNames (g : G) (l : Nat) (ts : List Expr) : List Str := ts.filterMap fun
  | .Name id pos => if g.sc.names.lookup id == some .local && pos.line == l then some id else none
  | _ => none
def lineOf (ts : List Expr) : Nat := (ts.head?.map (·.pos.line)).getD 0
/-- not stored from the right -/
def noSw (g : G) (tg e : Expr) : Bool := match tg, e with
  | .Tuple ts _ _, .Tuple vs _ _ => !(ts.length == 2 || ts.length == 3) || vs.length != ts.length || vs.any starred || (locNames g (lineOf ts) ts).length != ts.length
  | .List _ _, _ => false
  | _, _ => true
/-- stored from the right -/
def isSw (g : G) (ts vs : List Expr) : Bool := (ts.length == 2 || ts.length == 3) && vs.length == ts.length && !vs.any starred && (locNames g (lineOf ts) ts).length == ts.length && ((locNames g (lineOf ts) ts).eraseDups.length == (locNames g (lineOf ts) ts).length) && !vs.all (foldedForSure 8) && !vs.all (constantsAlone 8)
section
variable {X : Cx} {g : G} {C : RC} {cf : CF} {W : WX} {F : Fr}
theorem blk_fn (o : GOk X g C cf W) : X.env.blockKind = .function := by
  unfold Env.blockKind
  rw [o.sc, o.kind]
  rfl
theorem nm_bool (o : GOk X g C cf W) (x : Str) (a b : Bool) : (X.env.blockKind == .function && X.env.kindOf x == some .local && a && b) = (decide (g.sc.names.lookup x = some .local) && a && b) := by
  have hb := blk_fn o
  have hk : X.env.kindOf x = g.sc.names.lookup x := by
    show X.env.scope.names.lookup x = _
    rw [o.sc]
  rw [hb, hk]
  congr 2
  cases h3 : g.sc.names.lookup x with
  | none => rfl
  | some z => cases z <;> rfl
theorem swW_ok (o : GOk X g C cf W) (tg e : Expr) (l : Nat) : swapsWithSole [tg] e l X.env = pure (swW g tg e) := by
  show swapsWith e (some tg) l X.env = _
  cases e
  case ListComp a b s q =>
    unfold swapsWith swW
    try (cases tg <;> first | rfl | (exact congrArg pure (nm_bool o _ _ _)))
  case SetComp a b s q =>
    unfold swapsWith swW
    try (cases tg <;> first | rfl | (exact congrArg pure (nm_bool o _ _ _)))
  case DictComp a b c s q =>
    unfold swapsWith swW
    try (cases tg <;> first | rfl | (exact congrArg pure (nm_bool o _ _ _)))
  all_goals (first | rfl | done)
theorem noSw_ok (o : GOk X g C cf W) (tg e : Expr) (h : noSw g tg e = true) : swappedStores [tg] e X.env = pure none := by
  have hk : ∀ x, X.env.kindOf x = g.sc.names.lookup x := fun x => by
    show X.env.scope.names.lookup x = _
    rw [o.sc]
  cases tg <;> first | rfl | (cases h; done) | skip
  rename_i ts k1 p1
  cases e <;> first | rfl | skip
  rename_i vs k2 p2
  have hn : (ts.filterMap fun
      | .Name id pos => if X.env.kindOf id == some .local && pos.line == lineOf ts then some id else none
      | _ => none) = locNames g (lineOf ts) ts := by
    unfold locNames
    congr 1
    funext e
    cases e <;> first | rfl | (dsimp only; rw [hk])
  have hst : (vs.any fun | .Starred .. => true | _ => false) = vs.any starred := by
    congr 1
  have hb := blk_fn o
  unfold noSw at h
  simp only [Bool.or_eq_true, bne_iff_ne, ne_eq, Bool.not_eq_true'] at h
  show (if (!(ts.length == 2 || ts.length == 3) || vs.length != ts.length || X.env.blockKind != .function) = true then (pure none : Sem (Option (List Str)))
    else if (vs.any fun | .Starred .. => true | _ => false) = true then pure none
    else if ((ts.filterMap fun
      | .Name id pos => if X.env.kindOf id == some .local && pos.line == lineOf ts then some id else none
      | _ => none).length != ts.length || _) = true then pure none else _) = _
  rw [hn, hst]
  by_cases c1 : (!(ts.length == 2 || ts.length == 3) || vs.length != ts.length || X.env.blockKind != .function) = true
  · rw [if_pos c1]
  · rw [if_neg c1]
    by_cases c2 : vs.any starred = true
    · rw [if_pos c2]
    · rw [if_neg c2]
      rw [if_pos]
      simp only [Bool.or_eq_true, bne_iff_ne, ne_eq, Bool.not_eq_true'] at c1 ⊢
      rcases h with ((h | h) | h) | h
      · exact absurd (.inl (.inl h)) c1
      · exact absurd (.inl (.inr h)) c1
      · exact absurd h c2
      · exact .inl h
theorem isSw_ok (o : GOk X g C cf W) {ts vs : List Expr} {k1 k2 : Nat} {p1 p2 : Pos} (h : isSw g ts vs = true) : swappedStores [.Tuple ts k1 p1] (.Tuple vs k2 p2) X.env = pure (some (locNames g (lineOf ts) ts)) := by
  have hk : ∀ x, X.env.kindOf x = g.sc.names.lookup x := fun x => by
    show X.env.scope.names.lookup x = _
    rw [o.sc]
  have hn : (ts.filterMap fun
      | .Name id pos => if X.env.kindOf id == some .local && pos.line == lineOf ts then some id else none
      | _ => none) = locNames g (lineOf ts) ts := by
    unfold locNames
    congr 1
    funext e
    cases e <;> first | rfl | (dsimp only; rw [hk])
  have hst : (vs.any fun | .Starred .. => true | _ => false) = vs.any starred := by
    congr 1
  have hb := blk_fn o
  unfold isSw at h
  simp only [Bool.and_eq_true, beq_iff_eq, Bool.not_eq_true', Bool.or_eq_true] at h
  obtain ⟨⟨⟨⟨⟨⟨h1, h2⟩, h3⟩, h4⟩, h5⟩, h6⟩, h7⟩ := h
  show (if (!(ts.length == 2 || ts.length == 3) || vs.length != ts.length || X.env.blockKind != .function) = true then (pure none : Sem (Option (List Str)))
    else if (vs.any fun | .Starred .. => true | _ => false) = true then pure none
    else if ((ts.filterMap fun
      | .Name id pos => if X.env.kindOf id == some .local && pos.line == lineOf ts then some id else none
      | _ => none).length != ts.length || (ts.filterMap fun
      | .Name id pos => if X.env.kindOf id == some .local && pos.line == lineOf ts then some id else none
      | _ => none).eraseDups.length != (ts.filterMap fun
      | .Name id pos => if X.env.kindOf id == some .local && pos.line == lineOf ts then some id else none
      | _ => none).length) = true then pure none else if vs.all (foldedForSure 8) = true then pure none else if vs.all (constantsAlone 8) = true then unsupported "assign.tuple-of-constant-expressions:order-of-the-stores" else pure (some (ts.filterMap fun
      | .Name id pos => if X.env.kindOf id == some .local && pos.line == lineOf ts then some id else none
      | _ => none))) = _
  rw [hn, hst]
  rw [if_neg, if_neg, if_neg, if_neg, if_neg]
  · rw [h7]; decide
  · rw [h6]; decide
  · simp [h4, h5]
  · rw [h3]; decide
  · rw [hb]
    have e : (ts.length == 2 || ts.length == 3) = true := by
      rcases h1 with h1 | h1 <;> simp [h1]
    rw [e, h2]
    simp
/-- a kept value, or (true) one of the def's own -/
def rPar (o : Bool) : Rl PV V := if o = true then RFr else RKr true
theorem rFr_st {M π M' π' ow : List Addr} {H H' : Hp} {en : Env} {σ : L2.St} {μ : Sto} (R : RA C M π ow H en σ μ) (s : St M π H M' π' H') {v : PV} {u : V} (h : RFr en σ ow C M π H v u) : RFr en σ ow C M' π' H' v u := by
  obtain ⟨a, rfl, h1, h2, h3, h4, ro⟩ := h
  refine ⟨a, rfl, s.sub a h1, fun z => ?_, h3, h4, ro.st s R.sub h2⟩
  rcases s.nw2 a z with z | z
  · exact h2 z
  · exact R.trk a h1 z
theorem rPar_st {b : Bool} {M π M' π' ow : List Addr} {H H' : Hp} {en : Env} {σ : L2.St} {μ : Sto} (R : RA C M π ow H en σ μ) (s : St M π H M' π' H') {v : PV} {u : V} (h : rPar b en σ ow C M π H v u) : rPar b en σ ow C M' π' H' v u := by
  cases b with
  | true => exact rFr_st R s h
  | false => exact RV.st s R.sub h
/-- a name set along: what lies apart still lies apart -/
theorem rPar_set {b : Bool} {M π ow : List Addr} {H : Hp} {en : Env} {σ : L2.St} {i : Nat} {v w : PV} {u x : V} (h : rPar b en σ ow C M π H v u) (hw : RV C M π H w x) : rPar b (en.set i (some w)) (σ.set i (some x)) ow C M π H v u := by
  cases b with
  | false => exact h
  | true =>
    obtain ⟨a, rfl, h1, h2, h3, h4, ro⟩ := h
    refine ⟨a, rfl, h1, h2, h3, fun j z e q => ?_, ro⟩
    by_cases c : i = j
    · subst c
      by_cases hl : i < en.length
      · rw [List.getElem?_set_self hl] at e
        cases e
        unfold RV at hw
        exact hw
      · rw [List.getElem?_eq_none (by simpa using hl)] at e; cases e
    · rw [List.getElem?_set_ne c] at e q
      exact h4 j z e q
theorem par_one {b : Bool} {M π ow : List Addr} {H : Hp} {en : Env} {σ : L2.St} {μ : Sto} {i : Nat} {v : PV} {u : V} {en' : Env} (R : RA C M π ow H en σ μ) (h : rPar b en σ ow C M π H v u) (e : setSlot en i (if b = true then .own v else v) = some en') : RA C M π ow H en' (σ.set i (some u)) μ := by
  unfold setSlot at e
  split at e
  · rename_i hl
    cases e
    cases b with
    | true => exact R.setO i hl h
    | false => exact R.setv i h
  · cases e
theorem par2_ok (o : GOk X g C cf W) (hh : g.hot = false) (fm : Frm F) {i j : Nat} {bi bj : Bool} {a b : E} {ea eb : Expr} {x y : Str} {px py p1 p2 p : Pos} {k1 k2 : Nat} (ha : PE X ea (tR C W (rPar bi) (evE cf a))) (hb : PE X eb (tR C W (rPar bj) (evE cf b))) (hone : (bi && bj) = false)
    (hi : g.N[i]? = some x) (hj : g.N[j]? = some y) (hij : i ≠ j) (hx : g.sc.names.lookup x = some .local) (hy : g.sc.names.lookup y = some .local) (sa : noStar ea = true) (sb : noStar eb = true) (hw : isSw g [.Name x px, .Name y py] [ea, eb] = true) (hln : locNames g (lineOf [.Name x px, .Name y py]) [.Name x px, .Name y py] = [x, y]) :
    PS X (.Assign [.Tuple [.Name x px, .Name y py] k1 p1] (.Tuple [ea, eb] k2 p2) p) (tS C W F (evS cf (.par [(i, bi), (j, bj)] [a, b]))) := by
  have hsw := isSw_ok (k1 := k1) (k2 := k2) (p1 := p1) (p2 := p2) o hw
  rw [hln] at hsw
  refine (ps_par (o.calm hh) (by rw [o.N]; exact o.nd) (by rw [o.N]; exact hi) (by rw [o.N]; exact hj) hij (by rw [o.sc]; exact hx) (by rw [o.sc]; exact hy) (pa_cons ha (pa_cons hb pa_nil (star_of sb _ _)) (star_of sa _ _)) hsw (by rfl)).imp fun D σ H h => ?_
  obtain ⟨en, μ, π, M, ow, R, hF, h⟩ := h
  rw [evS] at h
  have e : (evEs cf [a, b] en μ).thn en (fun vs μ => nxO (assPar [(i, bi), (j, bj)] vs en) μ) = (evE cf a en μ).thn en fun v μ => (evE cf b en μ).thn en fun w μ => nxO (assPar [(i, bi), (j, bj)] [v, w] en) μ := by
    rw [evEs2]
    cases evE cf a en μ with
    | ok v μ1 =>
      show ((evE cf b en μ1).bind _).thn en _ = (evE cf b en μ1).thn en _
      cases evE cf b en μ1 <;> rfl
    | exc c fs m => rfl
    | err => rfl
  rw [e] at h
  refine (exS (rel := rPar bi) fm R hF h).mono fun u H1 ⟨v, μ1, π1, M1, R1, f1, s1, r1, h1⟩ => ?_
  refine (exS (rel := rPar bj) fm R1 f1 h1).mono fun w H2 ⟨v2, μ2, π2, M2, R2, f2, s2, r2, hp⟩ => ?_
  have r1 := rPar_st R1 s2 r1
  refine ⟨u, w, rfl, ?_⟩
  unfold assPar at hp
  cases e1 : setSlot en i (if bi = true then .own v else v) with
  | none => rw [e1] at hp; exact hp.elim
  | some en1 =>
    rw [e1, Option.bind_some] at hp
    unfold assPar at hp
    cases e2 : setSlot en1 j (if bj = true then .own v2 else v2) with
    | none => rw [e2] at hp; exact hp.elim
    | some en2 =>
      rw [e2] at hp
      have R3 := par_one R2 r1 e1
      have r3 : rPar bj en1 (σ.set i (some u)) ow C M2 π2 H2 v2 w := by
        cases bj with
        | false => exact r2
        | true =>
          cases bi with
          | true => cases hone
          | false =>
            unfold setSlot at e1
            split at e1
            · cases e1
              exact rPar_set (b := true) r2 r1
            · cases e1
      exact hp _ H2 π2 M2 (par_one R3 r3 e2) f2
theorem setLc_ok (o : GOk X g C cf W) (hh : g.hot = false) (fm : Frm F) {own : Bool} {i : Nat} {y : Str} {py spos : Pos} {elt : E} {tg : Tg} {it : E} {ifs : Option E} {vs : List Nat} {eE tgE itE : Expr} {ifsE : List Expr} {scope : Scope} {pos : Pos}
    (hy : g.N[i]? = some y) (hyl : g.sc.names.lookup y = some .local) (hsw : swW g (.Name y py) (.ListComp eE [⟨tgE, itE, ifsE, 0⟩] scope pos) = true)
    (hi : PI X tgE itE (tI C W false (evI cf it))) (bk : blkC g.N g.sc scope (ownsOf g vs) = true) (hg : ∀ X', GOk X' (blkG g scope) C cf WF → PG X' tgE (gTg C tg)) (ht : ∀ X', GOk X' (blkG g scope) C cf WF → PTs X' ifsE (tT C WF (evIf cf ifs)))
    (he : ∀ X', GOk X' (blkG g scope) C cf WF → PE X' eE (tE C WF true (evE cf elt))) (hsl : ∀ i ∈ slotsT tg, i ∈ vs) (hs : ∀ x, foldedSetIterable itE X.env x = pure x) :
    PS X (.Assign [.Name y py] (.ListComp eE [⟨tgE, itE, ifsE, 0⟩] scope pos) spos) (tS C W F (fun en μ => (evE cf (.comp elt tg it ifs vs) en μ).thn en fun v μ => nxO (setSlot en i (if own = true then .own v else v)) μ)) := by
  have ok : BlkOk X.N X.env.scope scope (ownsOf g vs) := by rw [o.N, o.sc]; exact blkOk_by bk
  have hsw2 : swapsWith (.ListComp eE [⟨tgE, itE, ifsE, 0⟩] scope pos) (some (.Name y py)) spos.line X.env = pure true := by
    have := swW_ok o (.Name y py) (.ListComp eE [⟨tgE, itE, ifsE, 0⟩] scope pos) spos.line
    rw [hsw] at this
    exact this
  refine (ps_setLc (i := i) (o.calm hh) (by rw [o.N]; exact o.nd) (by rw [o.N]; exact hy) (by rw [o.sc]; exact hyl) hsw2 hi ok (fun s H Cc cl fp => hg _ (o.blk hh ok.kind s H Cc cl fp)) (fun s H Cc cl fp => ht _ (o.blk hh ok.kind s H Cc cl fp)) (fun s H Cc cl fp => he _ (o.blk hh ok.kind s H Cc cl fp)) hs).imp fun D σ H h => ?_
  obtain ⟨en, μ, π, M, ow, R, hF, h⟩ := h
  rw [owns_snd]
  have nw : NewOk C W (rPar own) := by
    cases own with
    | true => exact newOk_f
    | false => exact (newOk_k (k := true) : NewOk C W (RKr true))
  refine comp_read (rl := rPar own) nw hsl ?_
  refine (exS (rel := rPar own) fm R hF h).mono fun u H1 ⟨v, μ1, π1, M1, R1, f1, s1, r1, hp⟩ => ?_
  cases e1 : setSlot en i (if own = true then .own v else v) with
  | none => rw [e1] at hp; exact hp.elim
  | some en1 =>
    rw [e1] at hp
    exact hp _ H1 π1 M1 (par_one R1 r1 e1) f1
end
end OL
end
section
set_option Elab.async false
set_option linter.all false
set_option maxRecDepth 100000
set_option maxHeartbeats 1000000
/-! OL, part w: three names at once. -/
namespace OL
open PySem PySem.Spec PyProof.Rows L2
section
variable {X : Cx} {g : G} {C : RC} {cf : CF} {W : WX} {F : Fr}
/-- behind a store the next value stands as it was -/
theorem par_next {bi bj : Bool} {M π ow : List Addr} {H : Hp} {en en1 : Env} {σ : L2.St} {i : Nat} {v w : PV} {u x : V} (hone : (bi && bj) = false) (r1 : rPar bi en σ ow C M π H v u) (e1 : setSlot en i (if bi = true then .own v else v) = some en1) (r2 : rPar bj en σ ow C M π H w x) : rPar bj en1 (σ.set i (some u)) ow C M π H w x := by
  cases bj with
  | false => exact r2
  | true =>
    cases bi with
    | true => cases hone
    | false =>
      unfold setSlot at e1
      split at e1
      · cases e1
        exact rPar_set (b := true) r2 r1
      · cases e1
theorem par3_ok (o : GOk X g C cf W) (hh : g.hot = false) (fm : Frm F) {i j l : Nat} {bi bj bl : Bool} {a b c : E} {ea eb ec : Expr} {x y z : Str} {px py pz p1 p2 p : Pos} {k1 k2 : Nat} (ha : PE X ea (tR C W (rPar bi) (evE cf a))) (hb : PE X eb (tR C W (rPar bj) (evE cf b))) (hc : PE X ec (tR C W (rPar bl) (evE cf c)))
    (o1 : (bi && bj) = false) (o2 : (bi && bl) = false) (o3 : (bj && bl) = false) (hi : g.N[i]? = some x) (hj : g.N[j]? = some y) (hl : g.N[l]? = some z) (hij : i ≠ j) (hil : i ≠ l) (hjl : j ≠ l) (hx : g.sc.names.lookup x = some .local) (hy : g.sc.names.lookup y = some .local) (hz : g.sc.names.lookup z = some .local)
    (sa : noStar ea = true) (sb : noStar eb = true) (sc : noStar ec = true) (hw : isSw g [.Name x px, .Name y py, .Name z pz] [ea, eb, ec] = true) (hln : locNames g (lineOf [.Name x px, .Name y py, .Name z pz]) [.Name x px, .Name y py, .Name z pz] = [x, y, z]) :
    PS X (.Assign [.Tuple [.Name x px, .Name y py, .Name z pz] k1 p1] (.Tuple [ea, eb, ec] k2 p2) p) (tS C W F (evS cf (.par [(i, bi), (j, bj), (l, bl)] [a, b, c]))) := by
  have hsw := isSw_ok (k1 := k1) (k2 := k2) (p1 := p1) (p2 := p2) o hw
  rw [hln] at hsw
  refine (ps_par3 (o.calm hh) (by rw [o.N]; exact o.nd) (by rw [o.N]; exact hi) (by rw [o.N]; exact hj) (by rw [o.N]; exact hl) hij hil hjl (by rw [o.sc]; exact hx) (by rw [o.sc]; exact hy) (by rw [o.sc]; exact hz)
    (pa_cons ha (pa_cons hb (pa_cons hc pa_nil (star_of sc _ _)) (star_of sb _ _)) (star_of sa _ _)) hsw (by rfl)).imp fun D σ H h => ?_
  obtain ⟨en, μ, π, M, ow, R, hF, h⟩ := h
  rw [evS] at h
  have e : (evEs cf [a, b, c] en μ).thn en (fun vs μ => nxO (assPar [(i, bi), (j, bj), (l, bl)] vs en) μ) =
      (evE cf a en μ).thn en fun u μ => (evE cf b en μ).thn en fun v μ => (evE cf c en μ).thn en fun w μ => nxO (assPar [(i, bi), (j, bj), (l, bl)] [u, v, w] en) μ := by
    rw [evEs]
    cases evE cf a en μ with
    | ok v μ1 =>
      show ((evEs cf [b, c] en μ1).bind _).thn en _ = (evE cf b en μ1).thn en _
      rw [evEs2]
      cases evE cf b en μ1 with
      | ok v2 μ2 =>
        show (((evE cf c en μ2).bind _).bind _).thn en _ = (evE cf c en μ2).thn en _
        cases evE cf c en μ2 <;> rfl
      | exc c fs m => rfl
      | err => rfl
    | exc c fs m => rfl
    | err => rfl
  rw [e] at h
  refine (exS (rel := rPar bi) fm R hF h).mono fun u H1 ⟨v, μ1, π1, M1, R1, f1, s1, r1, h1⟩ => ?_
  refine (exS (rel := rPar bj) fm R1 f1 h1).mono fun w H2 ⟨v2, μ2, π2, M2, R2, f2, s2, r2, h2⟩ => ?_
  refine (exS (rel := rPar bl) fm R2 f2 h2).mono fun t H3 ⟨v3, μ3, π3, M3, R3, f3, s3, r3, hp⟩ => ?_
  have r1 := rPar_st R2 s3 (rPar_st R1 s2 r1)
  have r2 := rPar_st R2 s3 r2
  refine ⟨u, w, t, rfl, ?_⟩
  unfold assPar at hp
  cases e1 : setSlot en i (if bi = true then .own v else v) with
  | none => rw [e1] at hp; exact hp.elim
  | some en1 =>
    rw [e1, Option.bind_some] at hp
    unfold assPar at hp
    cases e2 : setSlot en1 j (if bj = true then .own v2 else v2) with
    | none => rw [e2] at hp; exact hp.elim
    | some en2 =>
      rw [e2, Option.bind_some] at hp
      unfold assPar at hp
      cases e3 : setSlot en2 l (if bl = true then .own v3 else v3) with
      | none => rw [e3] at hp; exact hp.elim
      | some en3 =>
        rw [e3] at hp
        have q2 := par_next o1 r1 e1 r2
        have q3 := par_next o2 r1 e1 r3
        have R4 := par_one R3 r1 e1
        have q3' := par_next o3 q2 e2 q3
        exact hp _ H3 π3 M3 (par_one (par_one R4 q2 e2) q3' e3) f3
end
end OL
end
section
set_option Elab.async false
set_option linter.all false
set_option maxRecDepth 100000
set_option maxHeartbeats 2000000
/-! OL, part wa: errors raised and caught. -/
namespace OL
open PySem PySem.Spec PyProof.Rows L2
/-! ### clauses, some with a name -/
abbrev Cls := Value × Option Nat × (Addr → Value → Option Addr → TS)
def endsJ (j : Option Nat) (D : Ends) : Ends := match j with
  | none => D
  | some i => { nx := fun σ H => D.nx (σ.set i none) H, rt := D.rt, bk := fun σ H => D.bk (σ.set i none) H, ct := fun σ H => D.ct (σ.set i none) H }
def stJ (j : Option Nat) (a : Addr) (σ : L2.St) : L2.St := match j with
  | none => σ
  | some i => σ.set i (some (.ref a))
def wC (K : PySem.W.Frag) (Wout : WX) (D : Ends) : List Cls → WX
  | [] => Wout
  | (c, j, ts) :: r => fun cls d σ H => ∃ b, PySem.W.exmOne K cls c = some b ∧ (b = true → ∀ a, H a = none → ts a cls d (endsJ j D) (stJ j a σ) H) ∧ (b = false → wC K Wout D r cls d σ H)
def NmOk (X : Cx) (j : Option Nat) (nm : Option Str) : Prop := match j, nm with
  | none, none => True
  | some i, some n => X.N[i]? = some n ∧ X.env.kindOf n = some .local
  | _, _ => False
inductive HdsC (X : Cx) : List ExceptHandler → List Cls → Prop
  | nil : HdsC X [] []
  | cons {x : Str} {c : Value} {j : Option Nat} {nm : Option Str} {ts : Addr → Value → Option Addr → TS} {b₀ : Stmt} {suite : List Stmt} {np pos' : Pos} {hds : List ExceptHandler} {l : List Cls} (hc : Names X x c) (hj : NmOk X j nm)
      (hsu : ∀ (a : Addr) (oe : Obj) (cls : Value) (d : Option Addr) (pn : List (Addr × Obj)), Zc cls d oe → (∃ vs, oe.data = .fields vs) → PSs (X.suite a ((a, oe) :: pn)) (b₀ :: suite) (ts a cls d)) (r : HdsC X hds l) :
      HdsC X (.ExceptHandler (some (.Name x np)) nm (b₀ :: suite) pos' :: hds) ((c, j, ts) :: l)
section
variable {X : Cx} {body : List Stmt} {h₀ : ExceptHandler} {hds : List ExceptHandler} {l : List Cls} {pos : Pos} {tb : WX → TS} {Wout : WX}
theorem ps_tryC (hs : X.stack = X.env :: X.outer) (hf : X.env.frame = some X.env.locals) (hN : X.N.Nodup) (tk : Takes X Wout)
    (hb : ∀ (W : WX) (pn : List (Addr × Obj)) (xe : Value → Shared → Prop), Takes (X.tr pn xe) W → PassesOwn (model X.prog X.w) X.A X.env xe → PSs (X.tr pn xe) body (tb W))
    (hh : HdsC X (h₀ :: hds) l) : PS X (.Try body (h₀ :: hds) [] [] pos) (fun D σ H => tb (wC X.K Wout D l) D σ H) := by
  refine ⟨fun pins s σ H D I h => ?_⟩
  have ok := I.ok
  have hfr : X.A.frames = some (X.env :: X.outer) := by rw [ok.frames, hs]
  refine wpAny_Try_except ?_
  refine wpAny_mono ((hb (wC X.K Wout D l) (X.pn ++ pins) (fun e s₁ => wpAny (model X.prog X.w) X.A (noteFrame e X.env) (fun _ s₂ => wpAny (model X.prog X.w) X.A (setFlight e none) (fun _ s₃ =>
    wpAny (model X.prog X.w) X.A (handleBy e X.env (h₀ :: hds)) (SP X pins D) X.xe s₃) X.xe s₂) X.xe s₁) (fun u s' xx => ?_) PassesOwn.looking).run [] s σ H D (I.toTry _) h) (fun f s1 hsp => ?_) (fun e s1 he => he)
  · obtain ⟨a, B, sI, pins', σ', H', cls, d, rfl, J', nb, up, sky, na, os, ag, w⟩ := xx
    have J : Inv X pins σ' H' sI := J'.ofTry ok
    have sky' : Sky B (X.env :: X.outer) a (Zc cls d) X.env.locals s'.heap := by rw [← hs]; exact sky
    show wpAny (model X.prog X.w) X.A (noteFrame (.ref a) X.env) _ _ _
    refine Sky.land Zc.steady hfr hf sky' fun h3 fl3 up3 => ?_
    have J3 : Inv X pins σ' H' { s' with heap := h3 } := J.landed nb fl3.1 (up.trans up3) os ag
    obtain ⟨oe3, vs3, he3, hz3, hd3⟩ := fl3.there
    have nfr : a ∉ frs (X.env :: X.outer) := fun hm => by
      obtain ⟨_, o', e', hnf⟩ := fl3.2.2.1.mem hm
      rw [he3] at e'; cases e'
      exact hnf _ hd3
    have nL : a ≠ X.env.locals := fun z => nfr (List.mem_filterMap.mpr ⟨X.env, List.mem_cons_self, by rw [hf, z]⟩)
    have nF : a ∉ X.fs := fun hm => by
      obtain ⟨e, he, q⟩ := List.mem_filterMap.mp hm
      exact nfr (List.mem_filterMap.mpr ⟨e, List.mem_cons_of_mem _ he, q⟩)
    have S3 := J3.suite he3 hd3 na nL nF
    suffices go : ∀ {hds' : List ExceptHandler} {l' : List Cls}, HdsC X hds' l' → wC X.K Wout D l' cls d σ' H' →
        wpAny (model X.prog X.w) X.A (handleBy (.ref a) X.env hds') (SP X pins D) X.xe { s' with heap := h3 } from go hh w
    intro hds' l' hk
    induction hk with
    | nil =>
      intro w
      refine wpAny_handleBy_nil ?_
      obtain ⟨k1, k2, k3, oe, vs, T, oT, ts', he, hz, hd, h1, hr⟩ := id fl3
      unfold PySem.passOn
      refine wpAny_bind (wpAny_field he hd h1 ?_)
      rw [if_neg (show ¬ ((Value.ref T == Value.none) = true) from by simp)]
      have fin : wpAny (model X.prog X.w) X.A (setFlight (.ref a) X.env.frame) (fun _ s4 => wpAny (model X.prog X.w) X.A (throw (.ref a) : Sem PySem.Flow) (SP X pins D) X.xe s4) X.xe { s' with heap := h3 } := by
        rw [hf]
        refine HandSPX.setFlight_upZ fl3 fun h4 hh4 up4 => wpAny_throw (tk _ _ ?_)
        exact ⟨a, B, sI, pins, σ', H', cls, d, rfl, J, nb, (up.trans up3).trans up4, .inr (.inr (by rw [hs]; exact hh4)), na, os, ag, w⟩
      first
        | exact wpAny_bind (wpAny_pure (wpAny_bind fin))
        | exact wpAny_bind fin
    | @cons x c j nm ts b₀ suite np pos' hds2 l2 hc hj hsu r ih =>
      intro w
      obtain ⟨b, hb1, hyes, hno⟩ := w
      refine wpAny_handleBy_cons (codeAny_handlers_test ?_) (by intro q; cases q)
      have LT : PySem.W.Looks (model X.prog X.w) h3 (typeOf (.ref a)) cls := fun A Q E s k q => wpAny_typeOf_ref (k _ _ he3) (by rw [hz3.1]; exact q)
      have LM := PySem.W.exm_one (M := model X.prog X.w) (J3.kIn) LT hb1
      have test : ∀ {Q : Value → Shared → Prop} {E : Value → Shared → Prop}, Q c { s' with heap := h3 } → wpAny (model X.prog X.w) (X.A.mark (some (.ref a))) (eval (.Name x np) X.env) Q E { s' with heap := h3 } := fun {Q E} q => by
        obtain ⟨hg, hdbg, hm | ⟨hm, hv, hnn⟩⟩ := hc
        · exact ld_glob (X := X.suite a ((a, oe3) :: (X.pn ++ pins))) S3 hg hm q hdbg
        · exact ld_blt (X := X.suite a ((a, oe3) :: (X.pn ++ pins))) S3 hg hm hv q hnn hdbg
      refine test (LM.here ?_)
      cases b with
      | true =>
        match j, nm, hj with
        | none, none, _ =>
          refine codeAny_handlers_suite ?_
          refine HandSPX.lands_againZ fl3 fun h4 fl4 up4 => ?_
          have J4 : Inv X pins σ' H' { s' with heap := h4 } := J.landed nb fl4.1 ((up.trans up3).trans up4) os ag
          obtain ⟨oe4, vs4, he4, hz4, hd4⟩ := fl4.there
          have S4 := J4.suite he4 hd4 na nL nF
          refine wpAny_mono ((hsu a oe4 cls d (X.pn ++ pins) hz4 ⟨_, hd4⟩).run [] _ _ H' _ S4 (hyes rfl a na)) (fun f s6 hsp => ?_) (fun _ _ z => False.elim z)
          cases f with
          | ret u =>
            obtain ⟨v6, σ6, H6, S6, r6, q6⟩ := hsp
            exact ⟨_, _, _, S6.unsuite ok, r6, q6⟩
          | _ =>
            obtain ⟨σ6, H6, S6, q6⟩ := hsp
            exact ⟨_, _, S6.unsuite ok, q6⟩
        | some i, some n, ⟨hi, hln⟩ =>
          have hloc : Loc X.env.scope n := .inl hln
          refine codeAny_handlers_suite_as ?_
          refine HandSPX.lands_againZ fl3 fun h4 fl4 up4 => ?_
          have J4 : Inv X pins σ' H' { s' with heap := h4 } := J.landed nb fl4.1 ((up.trans up3).trans up4) os ag
          obtain ⟨oe4, vs4, he4, hz4, hd4⟩ := fl4.there
          have S4 := J4.suite he4 hd4 na nL nF
          refine store_ok (X := X.suite a ((a, oe4) :: (X.pn ++ pins))) (v := .ref a) S4 hN hi hloc rfl (fun s5 S5 => ?_) (.inr hln)
          refine wpAny_mono ((hsu a oe4 cls d (X.pn ++ pins) hz4 ⟨_, hd4⟩).run [] s5 _ H' _ S5 (hyes rfl a na)) (fun f s6 hsp => ?_) (fun _ _ z => False.elim z)
          have end_ : ∀ {σ6 : L2.St} {H6 : Hp} {Q : Shared → Prop}, Inv (X.suite a ((a, oe4) :: (X.pn ++ pins))) [] σ6 H6 s6 → (∀ s7, Inv X pins (σ6.set i none) H6 s7 → Q s7) →
              wpAny (model X.prog X.w) X.A (do bindName X.env n .none; unbindBehindTheSuite X.env n pos') (fun _ s7 => Q s7) X.xe s6 := fun {σ6 H6 Q} S6 hq => gone_ok (S6.unsuite ok) hN hi hln hq
          cases f with
          | next =>
            obtain ⟨σ6, H6, S6, q6⟩ := hsp
            exact end_ S6 fun s7 J7 => ⟨_, _, J7, q6⟩
          | brk =>
            obtain ⟨σ6, H6, S6, q6⟩ := hsp
            exact end_ S6 fun s7 J7 => ⟨_, _, J7, q6⟩
          | cont =>
            obtain ⟨σ6, H6, S6, q6⟩ := hsp
            exact end_ S6 fun s7 J7 => ⟨_, _, J7, q6⟩
          | ret u =>
            obtain ⟨v6, σ6, H6, S6, r6, q6⟩ := hsp
            exact end_ S6 fun s7 J7 => ⟨_, _, _, J7, r6, q6⟩
      | false =>
        show wpAny _ X.A (handleBy (.ref a) X.env hds2) _ _ _
        exact ih (hno rfl)
  · cases f with
    | ret u =>
      obtain ⟨v, σ', H', J', r, q⟩ := hsp
      exact ⟨v, σ', H', J'.ofTry ok, r, q⟩
    | next =>
      obtain ⟨σ', H', J', q⟩ := hsp
      exact wpAny_execs_nil ⟨σ', H', J'.ofTry ok, q⟩
    | _ =>
      obtain ⟨σ', H', J', q⟩ := hsp
      exact ⟨σ', H', J'.ofTry ok, q⟩
end

/-! ### the small language -/
section
variable {C C' : RC} {M π : List Addr} {H : Hp}
mutual
theorem RV.cc (hK : C'.K = C.K) (hf : C'.fa = C.fa) : ∀ {v : PV} {u : V}, RV C M π H v u → RV C' M π H v u
  | .non, u, h => h
  | .bl b, u, h => h
  | .int i, u, h => h
  | .str z, u, h => h
  | .tup l, u, h => by
    unfold RV at h ⊢
    obtain ⟨a, xs, e, q, r⟩ := h
    exact ⟨a, xs, e, by rw [hK]; exact q, RVs.cc hK hf r⟩
  | .sc l, u, h => by
    unfold RV at h ⊢
    obtain ⟨a, xs, e, q, r⟩ := h
    exact ⟨a, xs, e, by rw [hK]; exact q, RVs.cc hK hf r⟩
  | .lv l, u, h => by
    unfold RV at h ⊢
    obtain ⟨a, xs, e, n, q, r⟩ := h
    exact ⟨a, xs, e, n, q, RVs.cc hK hf r⟩
  | .dv ks vs, u, h => by
    unfold RV at h ⊢
    obtain ⟨a, xs, e, n, q, hl, r⟩ := h
    exact ⟨a, xs, e, n, q, hl, RVs.cc hK hf r⟩
  | .ref i, u, h => by unfold RV at h ⊢; exact h
  | .fn f, u, h => by unfold RV at h ⊢; rw [hf]; exact h
  | .exc _ _, u, h => by unfold RV at h; exact h.elim
  | .clo _ _, u, h => by unfold RV at h; exact h.elim
  | .rg _ _ _, u, h => by unfold RV at h; exact h.elim
  | .enu _ _, u, h => by unfold RV at h; exact h.elim
  | .own _, u, h => by unfold RV at h; exact h.elim
theorem RVs.cc (hK : C'.K = C.K) (hf : C'.fa = C.fa) : ∀ {l : List PV} {xs : List V}, RVs C M π H l xs → RVs C' M π H l xs
  | [], xs, h => h
  | v :: r, xs, h => by
    unfold RVs at h ⊢
    obtain ⟨x, xs', e, h1, h2⟩ := h
    exact ⟨x, xs', e, RV.cc hK hf h1, RVs.cc hK hf h2⟩
end
theorem RO.cc (hK : C'.K = C.K) (hf : C'.fa = C.fa) {a : Addr} {v : PV} (h : RO C M π H a v) : RO C' M π H a v := by
  cases v with
  | lv l =>
    obtain ⟨xs, e, r⟩ := h
    exact ⟨xs, e, r.cc hK hf⟩
  | dv ks vs =>
    obtain ⟨xs, e, hl, r⟩ := h
    exact ⟨xs, e, hl, r.cc hK hf⟩
  | _ => exact h.elim
theorem RS.cc (hK : C'.K = C.K) (hf : C'.fa = C.fa) {a : Addr} {o : SO} (h : RS C M π H a o) : RS C' M π H a o := by
  cases o with
  | lst l => exact RO.cc (v := .lv l) hK hf h
  | dct ks vs => exact RO.cc (v := .dv ks vs) hK hf h
def isExc : PV → Bool
  | .exc _ _ => true
  | _ => false
theorem RE.cc {ow : List Addr} (hK : C'.K = C.K) (hf : C'.fa = C.fa) (hc : C'.clo = C.clo) {v : PV} {u : V} (nv : isExc v = false) (h : RE C M π ow H v u) : RE C' M π ow H v u := by
  cases v with
  | own w =>
    obtain ⟨a, e, h1, h2, h3, h4⟩ := h
    exact ⟨a, e, h1, h2, h3, h4.cc hK hf⟩
  | exc c fs => cases nv
  | clo k cs =>
    obtain ⟨f, xs, e1, e2, r⟩ := h
    exact ⟨f, xs, e1, by rw [hc]; exact e2, r.cc hK hf⟩
  | _ =>
    have h1 : RV C M π H _ u := h
    have h2 : RV C' M π H _ u := h1.cc hK hf
    exact h2
/-- another error at hand; env: no error in a slot -/
theorem RA.cc {ow : List Addr} {en : Env} {σ : L2.St} {μ : Sto} (hK : C'.K = C.K) (hf : C'.fa = C.fa) (hc : C'.clo = C.clo) (ne : ∀ (i : Nat) (v : PV), en[i]? = some (some v) → isExc v = false) (R : RA C M π ow H en σ μ) : RA C' M π ow H en σ μ where
  len := R.len
  ev := fun i v e => by
    obtain ⟨u, h1, h2⟩ := R.ev i v e
    exact ⟨u, h1, h2.cc hK hf hc (ne i v e)⟩
  inj := R.inj
  sto := fun i o e => by
    obtain ⟨a, h1, h2⟩ := R.sto i o e
    exact ⟨a, h1, h2.cc hK hf⟩
  sl := R.sl
  nd := R.nd
  sub := R.sub
  a0 := R.a0
  trk := R.trk
theorem blank_no {en : Env} {i : Nat} {v : PV} (e : (en.map fun _ => (none : Option PV))[i]? = some (some v)) : False := by
  rw [List.getElem?_map] at e
  cases q : en[i]? with
  | none => rw [q] at e; cases e
  | some w => rw [q] at e; cases e
/-- nothing is told of the slots any more -/
theorem RA.blank {ow : List Addr} {en : Env} {σ : L2.St} {μ : Sto} (R : RA C M π ow H en σ μ) : RA C M π ow H (en.map fun _ => none) σ μ where
  len := by rw [R.len, List.length_map]
  ev := fun i v e => (blank_no e).elim
  inj := fun i j v w u e => (blank_no e).elim
  sto := R.sto
  sl := R.sl
  nd := R.nd
  sub := R.sub
  a0 := R.a0
  trk := R.trk
theorem RA.noex {ow : List Addr} {en : Env} {σ : L2.St} {μ : Sto} (R : RA C M π ow H en σ μ) (h : C.ex = none) : ∀ (i : Nat) (v : PV), en[i]? = some (some v) → isExc v = false := fun i v e => by
  cases v with
  | exc c fs =>
    obtain ⟨u, _, a, d, q, _⟩ := R.ev i _ e
    rw [h] at q
    cases q
  | _ => rfl
theorem noExc_of {en : Env} (h : noExc en = true) : ∀ (i : Nat) (v : PV), en[i]? = some (some v) → isExc v = false := fun i v e => by
  have q := List.all_eq_true.mp h _ (List.mem_of_getElem? e)
  cases v with
  | exc c fs => cases q
  | _ => rfl
/-- the slot of the except clause's name -/
theorem RA.setE {ow : List Addr} {en : Env} {σ : L2.St} {μ : Sto} (R : RA C M π ow H en σ μ) {i c : Nat} {fs : List PV} {a : Addr} (r : RE C M π ow H (.exc c fs) (.ref a)) : RA C M π ow H (en.set i (some (.exc c fs))) (σ.set i (some (.ref a))) μ := by
  have at_ : ∀ (j : Nat) (w : PV), (en.set i (some (.exc c fs)))[j]? = some (some (.own w)) → en[j]? = some (some (.own w)) ∧ j ≠ i := fun j w e => by
    by_cases z : i = j
    · subst z
      by_cases hl : i < en.length
      · rw [List.getElem?_set_self hl] at e; cases e
      · rw [List.getElem?_eq_none (by simpa using hl)] at e; cases e
    · rw [List.getElem?_set_ne z] at e
      exact ⟨e, Ne.symm z⟩
  refine ⟨by simp [R.len], fun j w e => ?_, fun j k v w u e1 e2 e3 e4 => ?_, R.sto, R.sl, R.nd, R.sub, R.a0, R.trk⟩
  · by_cases z : i = j
    · subst z
      by_cases hl : i < en.length
      · rw [List.getElem?_set_self hl] at e
        cases e
        exact ⟨_, List.getElem?_set_self (by rw [R.len]; exact hl), r⟩
      · rw [List.getElem?_eq_none (by simpa using hl)] at e; cases e
    · rw [List.getElem?_set_ne z] at e
      rw [List.getElem?_set_ne z]
      exact R.ev j w e
  · obtain ⟨h1, n1⟩ := at_ j v e1
    obtain ⟨h2, n2⟩ := at_ k w e2
    rw [List.getElem?_set_ne (Ne.symm n1)] at e3
    rw [List.getElem?_set_ne (Ne.symm n2)] at e4
    exact R.inj j k v w u h1 h2 e3 e4
end
section
variable {X : Cx} {g : G} {C : RC} {cf : CF} {W : WX} {F : Fr}
theorem GOk.trX (o : GOk X g C cf W) (hh : g.hot = false) {W' : WX} {pn : List (Addr × Obj)} {xe : Value → Shared → Prop} (tk : Takes (X.tr pn xe) W') : GOk (X.tr pn xe) g C cf W' where
  K := o.K
  N := o.N
  sc := o.sc
  kind := o.kind
  fn := o.fn
  nd := o.nd
  calm := o.calm
  un := o.un
  gd := o.gd
  blt := o.blt
  cons := o.cons
  fns := o.fns
  call := o.call
  exs := o.exs
  exm := o.exm
  exn := o.exn
  hx := fun a c d e => by rw [o.exn hh] at e; cases e
  sup := o.sup
  dep := o.dep
  tk := tk
def hotG (g : G) : G := { g with hot := true }
def exC (C : RC) (e : Option (Addr × Nat × Option Addr)) : RC := { C with ex := e }
/-- the context of an except suite -/
theorem GOk.suite (o : GOk X g C cf W) (hh : g.hot = false) {a : Addr} {oe : Obj} {pn : List (Addr × Obj)} {e : Option (Addr × Nat × Option Addr)} (he : ∀ b c d, e = some (b, c, d) → b = a ∧ Zc (.ref (C.ca c)) d oe) (hd : ∃ vs, oe.data = .fields vs) :
    GOk (X.suite a ((a, oe) :: pn)) (hotG g) (exC C e) cf WF where
  K := o.K
  N := o.N
  sc := o.sc
  kind := o.kind
  fn := o.fn
  nd := o.nd
  calm := fun h => by cases h
  un := o.un
  gd := o.gd
  blt := o.blt
  cons := fun p hp => by
    obtain ⟨u, v, h1, h2, h3⟩ := o.cons p hp
    exact ⟨u, v, h1, h2, fun M π H => RV.cc (C := C) (C' := exC C e) rfl rfl (h3 M π H)⟩
  fns := o.fns
  call := fun h => by cases h
  exs := fun q hq => by
    obtain ⟨h1, h2, h3⟩ := o.exs q hq
    exact ⟨h1, h2, ⟨h3.mkr, h3.ib, h3.fs, h3.xf, h3.lt⟩⟩
  exm := o.exm
  exn := fun h => by cases h
  hx := fun b c d q => by
    obtain ⟨rfl, z⟩ := he b c d q
    exact ⟨X, oe, pn, rfl, z, hd⟩
  sup := o.sup
  dep := o.dep
  tk := fun u s' ⟨_, _, _, _, _, _, _, _, _, _, _, _, _, _, _, _, w⟩ => w.elim
/-- raise X(..) -/
theorem rai_ok (o : GOk X g C cf W) (hh : g.hot = false) (fm : Frm F) {q : Str × Nat × List Str} {l : List E} {e : Expr} {es : List Expr} {p pos pos2 : Pos} (hq : q ∈ g.exs) (hg : glB g q.1 = true) (hl : l.length = q.2.2.length) (ha : PA X (e :: es) (tLk C W true (evEs cf l)))
    (he : starEach (e :: es) X.env = (false, eval e X.env) :: starEach es X.env) (hpl : (backTo pos (starEach es X.env)).any (·.1) = false) :
    PS X (.Raise (some (.Call (.Name q.1 p) (e :: es) [] pos)) none pos2) (tS C W F (evS cf (.rai q.2.1 l))) := by
  obtain ⟨_, hnm, ok⟩ := o.exs q hq
  refine (ps_raise (o.calm hh) o.tk (pmk_ex o hq hg ha he hpl)).imp fun D σ H h => ?_
  obtain ⟨en, μ, π, M, ow, R, hF, h⟩ := h
  rw [evS] at h
  have evl : ∀ {l : List E} {en : Env} {μ μ' : Sto} {vs : List PV}, evEs cf l en μ = .ok vs μ' → vs.length = l.length := fun {l} => by
    induction l with
    | nil =>
      intro en μ μ' vs h
      rw [evEs] at h
      cases h
      rfl
    | cons a l ih =>
      intro en μ μ' vs h
      rw [evEs] at h
      cases e1 : evE cf a en μ with
      | ok v μ1 =>
        rw [e1, Res.bind_ok] at h
        cases e2 : evEs cf l en μ1 with
        | ok vs' μ2 =>
          rw [e2, Res.bind_ok] at h
          cases h
          rw [List.length_cons, List.length_cons, ih e2]
        | exc c fs m => rw [e2] at h; cases h
        | err => rw [e2] at h; cases h
      | exc c fs m => rw [e1] at h; cases h
      | err => rw [e1] at h; cases h
  have key : tR C W (fun en σ ow C M π H (a : List PV) b => RVs C M π H a b ∧ a.length = l.length) (evEs cf l) σ H (fun vs H1 => vs.length = (C.nm q.2.1).length ∧ ∀ d, H1 d = none → W (.ref (C.ca q.2.1)) (some d) σ (upd H1 d (.xd ((C.nm q.2.1).zip vs)))) := by
    refine (exS (rel := fun en σ ow C M π H (a : List PV) b => RVs C M π H a b ∧ a.length = l.length) fm R hF h).mono fun vs H1 ⟨v, μ1, π1, M1, R1, f1, s1, ⟨r, hl1⟩, hp⟩ => ?_
    have hlen : vs.length = (C.nm q.2.1).length := by rw [hnm, ← hl, ← hl1, r.length]
    refine ⟨hlen, fun d hd => ?_⟩
    have hx : HExt [] H1 (upd H1 d (.xd ((C.nm q.2.1).zip vs))) := HExt.upd hd
    have st : St M1 π1 H1 M1 π1 (upd H1 d (.xd ((C.nm q.2.1).zip vs))) := .of hx upd_bk
    exact hp _ _ σ _ π1 M1 (R1.grow hx upd_bk) (fm.st f1 R1.sub st) ⟨rfl, ok.lt, .inr ⟨d, vs, rfl, upd_same, hlen.symm, r.st st R1.sub⟩⟩
  obtain ⟨en', μ', π', M', ow', R', hp⟩ := key
  refine ⟨en', μ', π', M', ow', R', ?_⟩
  cases e1 : evEs cf l en' μ' with
  | ok vs μ1 =>
    rw [e1] at hp
    exact fun u H' π2 M2 R2 s2 r2 => hp u H' π2 M2 R2 s2 ⟨r2, evl e1⟩
  | exc c fs m => rw [e1] at hp; exact hp
  | err => rw [e1] at hp; exact hp

/-! ### try -/
def SOk (X : Cx) : Prop := X.stack = X.env :: X.outer ∧ X.env.frame = some X.env.locals
def HG (X : Cx) (C : RC) (cf : CF) (W : WX) (F : Fr) (hs : List S) (hds : List ExceptHandler) : Prop :=
  ∃ l, HdsC X hds l ∧ ∀ {D : Ends} {cls : Value} {d : Option Addr} {c : Nat} {fs : List PV} {en : Env} {μ : Sto} {σ : L2.St} {H : Hp} {π M ow : List Addr}, RA C M π ow H en σ μ → F ow M π H → RX C M π H c fs cls d → postS C W F ow (evHs cf hs c fs en μ) D → wC X.K W D l cls d σ H
theorem hg_nil : HG X C cf W F [] [] := ⟨[], .nil, fun R hF rx h => by
  rw [evHs] at h
  exact h _ _ _ _ _ _ R hF rx⟩
theorem names_of (o : GOk X g C cf W) {q : Str × Nat × List Str} (hq : q ∈ g.exs) (hg : glB g q.1 = true) : Names X q.1 (.ref (C.ca q.2.1)) := by
  obtain ⟨hgl, hn⟩ := gl_of o hg
  obtain ⟨n1, n2, n3⟩ := okNm_all hn
  exact ⟨hgl, n1, .inl (o.exs q hq).1⟩
theorem any_one {c q : Nat} : ([q].any (cf.sub c)) = cf.sub c q := by simp
theorem hg_only (o : GOk X g C cf W) (hh : g.hot = false) {q : Str × Nat × List Str} {b hs : List S} {b0 : Stmt} {suite : List Stmt} {np pos' : Pos} {hds : List ExceptHandler} (hq : q ∈ g.exs) (hg : glB g q.1 = true)
    (hb : ∀ {X' : Cx}, GOk X' (hotG g) (exC C none) cf WF → X'.stack = X.stack → X'.env = X.env → X'.outer = X.outer → PassesOwn (model X'.prog X'.w) X'.A X'.env X'.xe → PSs X' (b0 :: suite) (tS (exC C none) WF F (evSs cf b))) (r : HG X C cf W F hs hds) :
    HG X C cf W F (.hdl [q.2.1] none b :: hs) (.ExceptHandler (some (.Name q.1 np)) none (b0 :: suite) pos' :: hds) := by
  obtain ⟨l, hl, hw⟩ := r
  have hex := o.exn hh
  have eC : exC C none = C := by unfold exC; rw [← hex]
  rw [eC] at hb
  refine ⟨(.ref (C.ca q.2.1), none, fun a cls d => tS C WF F (evSs cf b)) :: l, .cons (names_of o hq hg) trivial (fun a oe cls d pn hz hd => hb (by
    have := o.suite hh (a := a) (oe := oe) (pn := pn) (e := none) (fun b c d e => by cases e) hd
    rw [eC] at this
    exact this) rfl rfl rfl PassesOwn.never) hl, fun {D cls d c fs en μ σ H π M ow} R hF rx h => ?_⟩
  rw [evHs] at h
  unfold evH at h
  rw [any_one] at h
  obtain ⟨rfl, hc, rfs⟩ := id rx
  refine ⟨cf.sub c q.2.1, o.exm c hc q hq, fun hy a na => ?_, fun hn => ?_⟩
  · rw [if_pos hy] at h
    refine tS_of R hF ?_
    show postS C WF F ow _ D
    cases e : evSs cf b en μ with
    | ok fl en2 μ2 =>
      rw [e] at h
      cases fl <;> exact h
    | exc c2 fs2 en2 μ2 => rw [e] at h; exact h.elim
    | err => rw [e] at h; exact h.elim
  · rw [hn] at h
    exact hw R hF rx h
theorem hg_as (o : GOk X g C cf W) (hh : g.hot = false) {q : Str × Nat × List Str} {i : Nat} {n : Str} {b hs : List S} {b0 : Stmt} {suite : List Stmt} {np pos' : Pos} {hds : List ExceptHandler} (hq : q ∈ g.exs) (hg : glB g q.1 = true) (hi : g.N[i]? = some n) (hn : g.sc.names.lookup n = some .local)
    (hb : ∀ {X' : Cx} {e : Option (Addr × Nat × Option Addr)}, GOk X' (hotG g) (exC C e) cf WF → X'.stack = X.stack → X'.env = X.env → X'.outer = X.outer → PassesOwn (model X'.prog X'.w) X'.A X'.env X'.xe → PSs X' (b0 :: suite) (tS (exC C e) WF F (evSs cf b))) (r : HG X C cf W F hs hds) :
    HG X C cf W F (.hdl [q.2.1] (some i) b :: hs) (.ExceptHandler (some (.Name q.1 np)) (some n) (b0 :: suite) pos' :: hds) := by
  obtain ⟨l, hl, hw⟩ := r
  have hex := o.exn hh
  have back : ∀ {e : Option (Addr × Nat × Option Addr)} {M π ow : List Addr} {H : Hp} {en : Env} {σ : L2.St} {μ : Sto}, (∀ (i : Nat) (v : PV), en[i]? = some (some v) → isExc v = false) → RA (exC C e) M π ow H en σ μ → RA C M π ow H en σ μ := fun {e M π ow H en σ μ} ne R => RA.cc (C := exC C e) (C' := C) rfl rfl rfl ne R
  refine ⟨(.ref (C.ca q.2.1), some i, fun a cls d => fun D σ H => ∃ c, cls = .ref (C.ca c) ∧ tS (exC C (some (a, c, d))) WF F (evSs cf b) D σ H) :: l, .cons (names_of o hq hg) ⟨by rw [o.N]; exact hi, ?_⟩ (fun a oe cls d pn hz hd => ⟨fun pins s σ H D I h => ?_⟩) hl, fun {D cls d c fs en μ σ H π M ow} R hF rx h => ?_⟩
  · show X.env.scope.names.lookup n = _
    rw [o.sc]
    exact hn
  · obtain ⟨c, rfl, h⟩ := h
    exact (hb (o.suite hh (a := a) (oe := oe) (pn := pn) (e := some (a, c, d)) (fun b c2 d2 e => by cases e; exact ⟨rfl, hz⟩) hd) rfl rfl rfl PassesOwn.never).run pins s σ H D I h
  · rw [evHs] at h
    unfold evH at h
    rw [any_one] at h
    obtain ⟨rfl, hc, rfs⟩ := id rx
    refine ⟨cf.sub c q.2.1, o.exm c hc q hq, fun hy a na => ?_, fun hn => ?_⟩
    · rw [if_pos hy] at h
      refine ⟨c, rfl, ?_⟩
      have R' : RA (exC C (some (a, c, d))) M π ow H en σ μ := RA.cc (C := C) (C' := exC C (some (a, c, d))) rfl rfl rfl (R.noex hex) R
      have re : RE (exC C (some (a, c, d))) M π ow H (.exc c fs) (.ref a) := by
        refine ⟨a, d, rfl, rfl, ?_⟩
        rcases rfs with z | ⟨dd, xs, e1, e2, e3, r⟩
        · exact .inl z
        · exact .inr ⟨dd, xs, e1, e2, e3, RVs.cc (C := C) (C' := exC C (some (a, c, d))) rfl rfl r⟩
      have R2 := R'.setE (i := i) re
      refine tS_of R2 hF ?_
      show postS (exC C (some (a, c, d))) WF F ow _ (endsJ (some i) D)
      have h : postS C W F ow ((evSs cf b (en.set i (some (.exc c fs))) μ).gone i) D := h
      have other : ∀ {fl : Flow} {en2 : Env} {μ2 : Sto}, (∀ v, fl ≠ .rt v) → postS C W F ow ((Out.ok fl en2 μ2).gone i) D → noExc (en2.set i none) = true ∧ postS C W F ow (.ok fl (en2.set i none) μ2) D := fun {fl en2 μ2} nf h => by
        unfold Out.gone at h
        cases fl with
        | rt v => exact absurd rfl (nf v)
        | ro v => exact h.elim
        | _ =>
          dsimp only at h
          split at h
          · rename_i z; exact ⟨z, h⟩
          · exact h.elim
      cases e : evSs cf b (en.set i (some (.exc c fs))) μ with
      | ok fl en2 μ2 =>
        rw [e] at h
        cases fl with
        | rt v =>
          have h : postS C W F ow (.ok (.rt v) (en2.map fun _ => none) μ2) D := h
          exact fun u σ' H' π' M' R3 hF3 rv => h u σ' H' π' M' (back (fun i v e => (blank_no e).elim) R3.blank) hF3 (RV.cc (C := exC C (some (a, c, d))) (C' := C) rfl rfl rv)
        | ro v => exact (show False from h).elim
        | nx =>
          obtain ⟨z, h⟩ := other (fun v q => by cases q) h
          exact fun σ' H' π' M' R3 hF3 => h _ H' π' M' (back (noExc_of z) (R3.unset i)) hF3
        | bk =>
          obtain ⟨z, h⟩ := other (fun v q => by cases q) h
          exact fun σ' H' π' M' R3 hF3 => h _ H' π' M' (back (noExc_of z) (R3.unset i)) hF3
        | ct =>
          obtain ⟨z, h⟩ := other (fun v q => by cases q) h
          exact fun σ' H' π' M' R3 hF3 => h _ H' π' M' (back (noExc_of z) (R3.unset i)) hF3
      | exc c2 fs2 en2 μ2 => rw [e] at h; exact h.elim
      | err => rw [e] at h; exact h.elim
    · rw [hn] at h
      exact hw R hF rx h
theorem tri_ok (o : GOk X g C cf W) (hh : g.hot = false) (so : SOk X) {b hs : List S} {eb : List Stmt} {h0 : ExceptHandler} {hds : List ExceptHandler} {p : Pos}
    (hb : ∀ {X' : Cx} {W' : WX}, GOk X' g C cf W' → X'.stack = X.stack → X'.env = X.env → X'.outer = X.outer → PassesOwn (model X'.prog X'.w) X'.A X'.env X'.xe → PSs X' eb (tS C W' F (evSs cf b))) (hg : HG X C cf W F hs (h0 :: hds)) :
    PS X (.Try eb (h0 :: hds) [] [] p) (tS C W F (evS cf (.tri b hs))) := by
  obtain ⟨l, hl, hw⟩ := hg
  refine (ps_tryC (tb := fun W' => tS C W' F (evSs cf b)) so.1 so.2 (by rw [o.N]; exact o.nd) o.tk (fun W' pn xe tk hp => hb (o.trX hh tk) rfl rfl rfl hp) hl).imp fun D σ H h => ?_
  obtain ⟨en, μ, π, M, ow, R, hF, h⟩ := h
  rw [evS] at h
  refine tS_of R hF ?_
  cases e : evSs cf b en μ with
  | ok fl en2 μ2 =>
    rw [e] at h
    cases fl <;> exact h
  | exc c fs en2 μ2 =>
    rw [e] at h
    exact fun cls d σ' H' π' M' R' hF' rx => hw R' hF' rx h
  | err => rw [e] at h; exact h.elim
end
end OL
end
section
set_option Elab.async false
set_option linter.all false
set_option maxRecDepth 100000
set_option maxHeartbeats 4000000
/-! OL, part x: statements, the text held against the small language. -/
namespace OL
open PySem PySem.Spec PyProof.Rows L2
def isComp : Expr → Bool
  | .ListComp _ _ _ _ => true
  | .SetComp _ _ _ _ => true
  | .DictComp _ _ _ _ _ => true
  | _ => false
def isTgt : Expr → Bool
  | .Name _ _ => true
  | .Tuple _ _ _ => true
  | _ => false
/-- an element of a row of stores -/
def ckP (n : Nat) (g : G) (o : Bool) (t : E) (e : Expr) : Bool := ckE n g true t e && (!o || isNew t)
theorem ck_own {n : Nat} {g : G} {i : Nat} {e : Expr} (h : ckE n g true (.own i) e = true) : False := by
  cases n with
  | zero => unfold ckE at h; cases h
  | succ n =>
    unfold ckE at h
    split at h <;> simp_all
mutual
def ckS (n : Nat) (g : G) (t : S) (e : Stmt) : Bool := match n with
  | 0 => false
  | n + 1 => match t, e with
    | .nev, _ => true
    | .pas, .Pass _ => true
    | .brk, .Break _ => true
    | .cnt, .Continue _ => true
    | .oap i e, .Expr (.Call (.Attribute (.Name x _) m p3) [ee] [] p4) _ => decide (m = "append") && ckE n g true e ee && decide (g.N[i]? = some x) && visB g x && noStar ee && (p3.endLine == p4.line)
    | .oex i e, .Expr (.Call (.Attribute (.Name x _) m p3) [ee] [] p4) _ => decide (m = "extend") && ckE n g true e ee && decide (g.N[i]? = some x) && visB g x && noStar ee && (p3.endLine == p4.line)
    | .expr e, .Expr ee _ => ckE n g false e ee && !isComp ee
    | .opo t i, .Assign [te] (.Call (.Attribute (.Name x _) m p3) [] [] p4) _ => decide (m = "pop") && ckG g t te && decide (g.N[i]? = some x) && visB g x && (p3.endLine == p4.line) && isTgt te
    | .asg (.nm i) (.comp elt tg it ifs vs), .Assign [.Name y py] (.ListComp ee [⟨te, ie, fe, 0⟩] scope pos) _ =>
      if swW g (.Name y py) (.ListComp ee [⟨te, ie, fe, 0⟩] scope pos) = true then !g.hot && decide (g.N[i]? = some y) && decide (g.sc.names.lookup y = some .local) && ckI n g false it te ie && blkC g.N g.sc scope (ownsOf g vs) && ckG (blkG g scope) tg te && ckF n (blkG g scope) ifs fe && ckE n (blkG g scope) true elt ee && slotsIn tg vs && noSet ie
      else ckG g (.nm i) (.Name y py) && ckE n g true (.comp elt tg it ifs vs) (.ListComp ee [⟨te, ie, fe, 0⟩] scope pos)
    | .asg t e, .Assign [te] ee _ => ckG g t te && ckE n g true e ee && !swW g te ee && noSw g te ee && isTgt te
    | .oasg i (.comp elt tg it ifs vs), .Assign [.Name y py] (.ListComp ee [⟨te, ie, fe, 0⟩] scope pos) _ =>
      if swW g (.Name y py) (.ListComp ee [⟨te, ie, fe, 0⟩] scope pos) = true then !g.hot && decide (g.N[i]? = some y) && decide (g.sc.names.lookup y = some .local) && ckI n g false it te ie && blkC g.N g.sc scope (ownsOf g vs) && ckG (blkG g scope) tg te && ckF n (blkG g scope) ifs fe && ckE n (blkG g scope) true elt ee && slotsIn tg vs && noSet ie
      else decide (g.N[i]? = some y) && locB g y && ckE n g true (.comp elt tg it ifs vs) (.ListComp ee [⟨te, ie, fe, 0⟩] scope pos)
    | .oasg i e, .Assign [.Name y py] ee _ => isNew e && ckE n g true e ee && decide (g.N[i]? = some y) && locB g y && !swW g (.Name y py) ee
    | .par [(i, bi), (j, bj)] [a, b], .Assign [.Tuple [.Name x px, .Name y py] _ _] (.Tuple [ea, eb] _ _) _ => !g.hot && ckP n g bi a ea && ckP n g bj b eb && !(bi && bj) && decide (g.N[i]? = some x) && decide (g.N[j]? = some y) && decide (i ≠ j) &&
        decide (g.sc.names.lookup x = some .local) && decide (g.sc.names.lookup y = some .local) && noStar ea && noStar eb && isSw g [.Name x px, .Name y py] [ea, eb] && decide (locNames g (lineOf [.Name x px, .Name y py]) [.Name x px, .Name y py] = [x, y])
    | .par [(i, bi), (j, bj), (l, bl)] [a, b, c], .Assign [.Tuple [.Name x px, .Name y py, .Name z pz] _ _] (.Tuple [ea, eb, ec] _ _) _ => !g.hot && ckP n g bi a ea && ckP n g bj b eb && ckP n g bl c ec && !(bi && bj) && !(bi && bl) && !(bj && bl) &&
        decide (g.N[i]? = some x) && decide (g.N[j]? = some y) && decide (g.N[l]? = some z) && decide (i ≠ j) && decide (i ≠ l) && decide (j ≠ l) && decide (g.sc.names.lookup x = some .local) && decide (g.sc.names.lookup y = some .local) && decide (g.sc.names.lookup z = some .local) &&
        noStar ea && noStar eb && noStar ec && isSw g [.Name x px, .Name y py, .Name z pz] [ea, eb, ec] && decide (locNames g (lineOf [.Name x px, .Name y py, .Name z pz]) [.Name x px, .Name y py, .Name z pz] = [x, y, z])
    | .osi i k e, .Assign [.Subscript (.Name x _) ke _] ee _ => ckE n g true e ee && ckE n g false k ke && decide (g.N[i]? = some x) && visB g x && noSlice ke
    | .asi a k e, .Assign [.Subscript ae ke _] ee _ => ckE n g true e ee && ckE n g false a ae && ckE n g false k ke && noSlice ke
    | .obx i e, .Assign [.Name y py] ee _ => isNew e && ckE n g true e ee && decide (g.N[i]? = some y) && locB g y && !swW g (.Name y py) ee
    | .abx a k e, .Assign [.Subscript ae ke _] ee _ => isNew e && ckE n g true e ee && ckE n g false a ae && ckE n g false k ke && noSlice ke
    | .aug i b e, .AugAssign (.Name x _) op ee _ => decide (op = opM b) && ckE n g false e ee && decide (g.N[i]? = some x) && locB g x && augOk b
    | .iff c a b, .If ec ea eb _ => ckT n g c ec && ckSs n g a ea && ckSs n g b eb
    | .whl c b, .While ec eb [] _ => ckT n g c ec && ckSs n g b eb
    | .forr t it b, .For te ie eb [] _ => !g.hot && ckI n g true it te ie && ckG g t te && ckSs n g b eb && noSet ie
    | .ret none, .Return none _ => true
    | .ret (some (.own i)), .Return (some (.Name x _)) _ => decide (g.N[i]? = some x) && visB g x
    | .ret (some e), .Return (some ee) _ => ckE n g true e ee
    | .trt b, .Try eb (_ :: _) [] [] _ => ckSs n g b eb
    | .rai c l, .Raise (some (.Call (.Name x _) (e :: es) [] _)) none _ => !g.hot && (g.exs.any fun q => decide (q.1 = x) && decide (q.2.1 = c) && decide (l.length = q.2.2.length)) && glB g x && ckEs n g true l (e :: es)
    | .tri b hs, .Try eb (h :: hds) [] [] _ => !g.hot && ckSs n g b eb && ckHs n g hs (h :: hds)
    | _, _ => false
def ckHs (n : Nat) (g : G) (l : List S) (es : List ExceptHandler) : Bool := match n with
  | 0 => false
  | n + 1 => match l, es with
    | [], [] => true
    | .hdl [c] j b :: r, .ExceptHandler (some (.Name x _)) nm (b0 :: suite) _ :: er => (g.exs.any fun q => decide (q.1 = x) && decide (q.2.1 = c)) && glB g x && (match j, nm with
      | none, none => true
      | some i, some n => decide (g.N[i]? = some n) && decide (g.sc.names.lookup n = some .local)
      | _, _ => false) && ckSs n (hotG g) b (b0 :: suite) && ckHs n g r er
    | _, _ => false
def ckSs (n : Nat) (g : G) (l : List S) (es : List Stmt) : Bool := match n with
  | 0 => false
  | n + 1 => match l, es with
    | [], [] => true
    | t :: r, e :: er => ckS n g t e && ckSs n g r er
    | _, _ => false
end
section
variable {X : Cx} {g : G} {C : RC} {cf : CF} {W : WX} {F : Fr}
theorem GOk.nox (o : GOk X g C cf W) : GOk X.nox g C cf WF where
  K := o.K
  N := o.N
  sc := o.sc
  kind := o.kind
  fn := o.fn
  nd := o.nd
  calm := o.calm
  un := o.un
  gd := o.gd
  blt := o.blt
  cons := o.cons
  fns := o.fns
  call := o.call
  exs := o.exs
  exm := o.exm
  exn := o.exn
  hx := fun a c d e => by
    obtain ⟨X0, oe, pn, rfl, z⟩ := o.hx a c d e
    exact ⟨X0.nox, oe, pn, rfl, z⟩
  sup := o.sup
  dep := o.dep
  tk := fun u s' ⟨_, _, _, _, _, _, _, _, _, _, _, _, _, _, _, _, w⟩ => w.elim
theorem trt_ok {b : List S} {eb : List Stmt} {h0 : ExceptHandler} {hs : List ExceptHandler} {p : Pos} (h : PSs X.nox eb (tS C WF F (evSs cf b))) : PS X (.Try eb (h0 :: hs) [] [] p) (tS C W F (evS cf (.trt b))) := by
  refine (ps_try_thru0 h).imp fun D σ H h => ?_
  obtain ⟨en, μ, π, M, ow, R, hF, h⟩ := h
  rw [evS] at h
  refine tS_of R hF ?_
  cases e : evSs cf b en μ with
  | ok fl en2 μ2 =>
    rw [e] at h
    cases fl <;> exact h
  | exc c fs en2 μ2 =>
    rw [e] at h
    exact h.elim
  | err =>
    rw [e] at h
    exact h.elim
theorem nev_ok {e : Stmt} : PS X e (tS C W F (evS cf .nev)) := by
  refine ps_never.imp fun D σ H h => ?_
  obtain ⟨en, μ, π, M, ow, R, hF, h⟩ := h
  rw [evS] at h
  exact h
theorem tgt_one {te : Expr} (h : isTgt te = true) (env : PySem.Env) : (assignEach [te] env).map (·.2) = [assign te env] := by
  cases te <;> first | rfl | cases h
theorem ckP_ok {n : Nat} (o : GOk X g C cf W) {b : Bool} {t : E} {e : Expr} (h : ckP n g b t e = true) : PE X e (tR C W (rPar b) (evE cf t)) := by
  unfold ckP at h
  rw [Bool.and_eq_true] at h
  have ih := all_ok cf C n
  cases b with
  | true => exact ih.pn o newOk_f (by simpa using h.2) h.1
  | false => exact ih.pe o h.1
theorem swap1 (o : GOk X g C cf W) {tg e : Expr} {l : Nat} (h : swW g tg e = false) : swapsWith e (some tg) l X.env = pure false := (swW_ok o tg e l).trans (congrArg pure h)
theorem swW_sub (g : G) (a b e : Expr) {p : Pos} : swW g (.Subscript a b p) e = false := by
  cases e <;> rfl
theorem swap_none {e : Expr} {l : Nat} (h : isComp e = false) : swapsWith e none l X.env = pure false := by
  cases e <;> first | rfl | cases h
end
structure AllS (cf : CF) (n : Nat) : Prop where
  ps : ∀ {X : Cx} {g : G} {C : RC} {W : WX} {F : Fr} {t : S} {e : Stmt}, GOk X g C cf W → PassesOwn (model X.prog X.w) X.A X.env X.xe → SOk X → Frm F → ckS n g t e = true → PS X e (tS C W F (evS cf t))
  pss : ∀ {X : Cx} {g : G} {C : RC} {W : WX} {F : Fr} {t : List S} {e : List Stmt}, GOk X g C cf W → PassesOwn (model X.prog X.w) X.A X.env X.xe → SOk X → Frm F → ckSs n g t e = true → PSs X e (tS C W F (evSs cf t))
  ph : ∀ {X : Cx} {g : G} {C : RC} {W : WX} {F : Fr} {hs : List S} {hds : List ExceptHandler}, GOk X g C cf W → g.hot = false → Frm F → ckHs n g hs hds = true → (∀ {X' : Cx}, X'.stack = X.stack → X'.env = X.env → X'.outer = X.outer → SOk X') → HG X C cf W F hs hds
theorem all_okS (cf : CF) : ∀ n, AllS cf n
  | 0 => ⟨fun _ _ _ _ h => (by unfold ckS at h; cases h), fun _ _ _ _ h => (by unfold ckSs at h; cases h), fun _ _ _ h _ => (by unfold ckHs at h; cases h)⟩
  | n + 1 => by
    have ih := all_okS cf n
    refine ⟨fun {X g C W F t e} o po so fm h => ?_, fun {X g C W F t e} o po so fm h => ?_, fun {X g C W F hs hds} o hh fm h hso => ?_⟩
    · have ie := all_ok cf C n
      unfold ckS at h
      split at h
      · exact nev_ok
      · exact pas_ok
      · exact brk_ok
      · exact cnt_ok
      · simp only [Bool.and_eq_true, decide_eq_true_eq] at h
        obtain ⟨⟨⟨⟨⟨rfl, h1⟩, h2⟩, h3⟩, h4⟩, h5⟩ := h
        exact oap_ok o fm (ie.pe o h1) h2 h3 h4 h5
      · simp only [Bool.and_eq_true, decide_eq_true_eq] at h
        obtain ⟨⟨⟨⟨⟨rfl, h1⟩, h2⟩, h3⟩, h4⟩, h5⟩ := h
        exact oex_ok o fm (ie.pe o h1) h2 h3 h4 h5
      · simp only [Bool.and_eq_true, Bool.not_eq_true'] at h
        exact expr_ok fm (ie.pe o h.1) (swap_none h.2)
      · simp only [Bool.and_eq_true, decide_eq_true_eq] at h
        obtain ⟨⟨⟨⟨⟨rfl, h1⟩, h2⟩, h3⟩, h4⟩, h5⟩ := h
        refine opo_ok o fm (pg_ok o _ _ h1) h2 h3 h4 (by rfl) ?_ (tgt_one h5 _)
        exact noSw_ok o _ _ (by
          unfold noSw
          split
          · rename_i e1 e2
            cases e2
          · cases h5
          · rfl)
      · split at h
        · rename_i hsw
          simp only [Bool.and_eq_true, decide_eq_true_eq, Bool.not_eq_true'] at h
          obtain ⟨⟨⟨⟨⟨⟨⟨⟨⟨h1, h2⟩, h3⟩, h4⟩, h5⟩, h6⟩, h7⟩, h8⟩, h9⟩, h10⟩ := h
          refine (setLc_ok (own := false) o h1 fm h2 h3 hsw (ie.pi o h4) h5 (fun X' o' => pg_ok o' _ _ h6) (fun X' o' => ie.pf o' h7) (fun X' o' => ie.pe o' h8) (fun i hi => of_decide_eq_true (List.all_eq_true.mp h9 i hi)) (fold_of h10)).imp fun D σ H q => ?_
          obtain ⟨en, μ, π, M, ow, R, hF, q⟩ := q
          rw [evS] at q
          refine tS_of R hF ?_
          exact q
        · rename_i hsw
          simp only [Bool.and_eq_true] at h
          exact asg_ok fm (ie.pe o h.2) (pg_ok o _ _ h.1) ((swW_ok o _ _ _).trans (congrArg pure (Bool.eq_false_iff.mpr hsw))) (noSw_ok o _ _ rfl) (by rfl)
      · simp only [Bool.and_eq_true, Bool.not_eq_true'] at h
        obtain ⟨⟨⟨⟨h1, h2⟩, h3⟩, h4⟩, h5⟩ := h
        exact asg_ok fm (ie.pe o h2) (pg_ok o _ _ h1) ((swW_ok o _ _ _).trans (congrArg pure h3)) (noSw_ok o _ _ h4) (tgt_one h5 _)
      · split at h
        · rename_i hsw
          simp only [Bool.and_eq_true, decide_eq_true_eq, Bool.not_eq_true'] at h
          obtain ⟨⟨⟨⟨⟨⟨⟨⟨⟨h1, h2⟩, h3⟩, h4⟩, h5⟩, h6⟩, h7⟩, h8⟩, h9⟩, h10⟩ := h
          refine (setLc_ok (own := true) o h1 fm h2 h3 hsw (ie.pi o h4) h5 (fun X' o' => pg_ok o' _ _ h6) (fun X' o' => ie.pf o' h7) (fun X' o' => ie.pe o' h8) (fun i hi => of_decide_eq_true (List.all_eq_true.mp h9 i hi)) (fold_of h10)).imp fun D σ H q => ?_
          obtain ⟨en, μ, π, M, ow, R, hF, q⟩ := q
          rw [evS] at q
          exact tS_of R hF q
        · rename_i hsw
          simp only [Bool.and_eq_true, decide_eq_true_eq] at h
          obtain ⟨⟨h1, h2⟩, h3⟩ := h
          exact oasg_ok o fm (ie.pn o newOk_f rfl h3) h1 h2 (swap1 o (Bool.eq_false_iff.mpr hsw))
      · simp only [Bool.and_eq_true, decide_eq_true_eq, Bool.not_eq_true'] at h
        obtain ⟨⟨⟨⟨h1, h2⟩, h3⟩, h4⟩, h5⟩ := h
        exact oasg_ok o fm (ie.pn o newOk_f h1 h2) h3 h4 (swap1 o h5)
      · simp only [Bool.and_eq_true, decide_eq_true_eq, Bool.not_eq_true'] at h
        obtain ⟨⟨⟨⟨⟨⟨⟨⟨⟨⟨⟨⟨h1, h2⟩, h3⟩, h4⟩, h5⟩, h6⟩, h7⟩, h8⟩, h9⟩, h10⟩, h11⟩, h12⟩, h13⟩ := h
        exact par2_ok o h1 fm (ckP_ok o h2) (ckP_ok o h3) h4 h5 h6 h7 h8 h9 h10 h11 h12 h13
      · simp only [Bool.and_eq_true, decide_eq_true_eq, Bool.not_eq_true'] at h
        obtain ⟨⟨⟨⟨⟨⟨⟨⟨⟨⟨⟨⟨⟨⟨⟨⟨⟨⟨⟨⟨h1, h2⟩, h3⟩, h4⟩, h5⟩, h6⟩, h7⟩, h8⟩, h9⟩, h10⟩, h11⟩, h12⟩, h13⟩, h14⟩, h15⟩, h16⟩, h17⟩, h18⟩, h19⟩, h20⟩, h21⟩ := h
        exact par3_ok o h1 fm (ckP_ok o h2) (ckP_ok o h3) (ckP_ok o h4) h5 h6 h7 h8 h9 h10 h11 h12 h13 h14 h15 h16 h17 h18 h19 h20 h21
      · simp only [Bool.and_eq_true, decide_eq_true_eq] at h
        obtain ⟨⟨⟨⟨h1, h2⟩, h3⟩, h4⟩, h5⟩ := h
        exact osi_ok o fm (ie.pe o h1) (ie.pe o h2) h3 h4 h5 ((swW_ok o _ _ _).trans (congrArg pure (swW_sub _ _ _ _))) (noSw_ok o _ _ rfl)
      · simp only [Bool.and_eq_true] at h
        obtain ⟨⟨⟨h1, h2⟩, h3⟩, h4⟩ := h
        exact asi_ok o fm (ie.pe o h1) (ie.pe o h2) (ie.pe o h3) h4 ((swW_ok o _ _ _).trans (congrArg pure (swW_sub _ _ _ _))) (noSw_ok o _ _ rfl)
      · simp only [Bool.and_eq_true, decide_eq_true_eq, Bool.not_eq_true'] at h
        obtain ⟨⟨⟨⟨h1, h2⟩, h3⟩, h4⟩, h5⟩ := h
        exact obx_ok o fm (ie.pn o newOk_f h1 h2) h3 h4 (swap1 o h5)
      · simp only [Bool.and_eq_true] at h
        obtain ⟨⟨⟨⟨h1, h2⟩, h3⟩, h4⟩, h5⟩ := h
        exact abx_ok o fm (ie.pn o newOk_f h1 h2) (ie.pe o h3) (ie.pe o h4) h5 ((swW_ok o _ _ _).trans (congrArg pure (swW_sub _ _ _ _))) (noSw_ok o _ _ rfl)
      · simp only [Bool.and_eq_true, decide_eq_true_eq] at h
        obtain ⟨⟨⟨⟨rfl, h1⟩, h2⟩, h3⟩, h4⟩ := h
        exact aug_ok o fm (ie.pe o h1) h2 h3 h4
      · simp only [Bool.and_eq_true] at h
        exact iff_ok fm (ie.pt o h.1.1) (ih.pss o po so fm h.1.2) (ih.pss o po so fm h.2)
      · simp only [Bool.and_eq_true] at h
        exact whl_ok fm po (ie.pt o h.1) (ih.pss o po so fm h.2)
      · simp only [Bool.and_eq_true, Bool.not_eq_true'] at h
        obtain ⟨⟨⟨⟨h1, h2⟩, h3⟩, h4⟩, h5⟩ := h
        exact forr_ok fm (o.calm h1) po (ie.pi o h2) (pg_ok o _ _ h3) (fun F' fm' => ih.pss o po so fm' h4) (fold_of h5)
      · exact retN_ok
      · simp only [Bool.and_eq_true, decide_eq_true_eq] at h
        exact retO_ok o h.1 h.2
      · refine ret_ok fm (fun i e => ?_) (ie.pe o h)
        subst e
        exact ck_own h
      · exact trt_ok (ih.pss o.nox PassesOwn.never so fm h)
      · simp only [Bool.and_eq_true, Bool.not_eq_true'] at h
        obtain ⟨⟨⟨h1, h2⟩, h3⟩, h4⟩ := h
        obtain ⟨q, hq, h5⟩ := List.any_eq_true.mp h2
        simp only [Bool.and_eq_true, decide_eq_true_eq] at h5
        obtain ⟨⟨rfl, rfl⟩, h6⟩ := h5
        have st := noStars h4
        exact rai_ok o h1 fm hq h3 h6 (ie.pa o h4) (star_of (st _ List.mem_cons_self) _ _) (stars_none fun x hx => st x (List.mem_cons_of_mem _ hx))
      · simp only [Bool.and_eq_true, Bool.not_eq_true'] at h
        obtain ⟨⟨h1, h2⟩, h3⟩ := h
        have so' : ∀ {X' : Cx}, X'.stack = X.stack → X'.env = X.env → X'.outer = X.outer → SOk X' := fun {X'} e1 e2 e3 => ⟨by rw [e1, e2, e3]; exact so.1, by rw [e2]; exact so.2⟩
        exact tri_ok o h1 so (fun o' e1 e2 e3 po' => ih.pss o' po' (so' e1 e2 e3) fm h2) (ih.ph o h1 fm h3 so')
      · cases h
    · unfold ckSs at h
      split at h
      · exact nil_ok
      · simp only [Bool.and_eq_true] at h
        exact cons_ok (ih.ps o po so fm h.1) (ih.pss o po so fm h.2)
      · cases h
    · unfold ckHs at h
      split at h
      · exact hg_nil
      · simp only [Bool.and_eq_true] at h
        obtain ⟨⟨⟨⟨h1, h2⟩, h3⟩, h4⟩, h5⟩ := h
        obtain ⟨q, hq, h6⟩ := List.any_eq_true.mp h1
        simp only [Bool.and_eq_true, decide_eq_true_eq] at h6
        obtain ⟨rfl, rfl⟩ := h6
        split at h3
        · exact hg_only o hh hq h2 (fun o' e1 e2 e3 po' => ih.pss o' po' (hso e1 e2 e3) fm h4) (ih.ph o hh fm h5 hso)
        · simp only [Bool.and_eq_true, decide_eq_true_eq] at h3
          exact hg_as o hh hq h2 h3.1 h3.2 (fun o' e1 e2 e3 po' => ih.pss o' po' (hso e1 e2 e3) fm h4) (ih.ph o hh fm h5 hso)
        · cases h3
      · cases h
end OL
end
section
set_option Elab.async false
set_option linter.all false
set_option maxRecDepth 100000
set_option maxHeartbeats 4000000
/-! OL, part y: defs keep their promises. -/
namespace OL
open PySem PySem.Spec PyProof.Rows L2
/-- what the module's names are, for all defs -/
structure MG where
  fns : List (Str × Nat)
  cons : List (Str × Nat)
  blt : List Str
  exs : List (Str × Nat × List Str)
def gOf (m : MG) (N : List Str) (sc : Scope) : G := ⟨N, sc, fun _ => true, m.fns, m.cons, m.exs, m.blt, false⟩
/-- the text of the def f -/
structure FnT (K : PySem.W.Frag) (m : MG) (C : RC) (fuel : Nat) (f : Nat) (D : FD) (fd : FuncData) (ps : List Str) : Prop where
  txt : ∃ (name qual : Str) (params : Arguments) (body : List Stmt) (scope : Scope) (dV kV doc pm cdv ct oc : Value) (an od : Option Addr) (osl : Array (Option Value)) (N : List Str),
    fd = PySem.W.fnOf name qual params body scope dV kV doc pm an cdv ct ∧ K.lookup (C.fa f) = some ⟨oc, od, .func (PySem.W.fnOf name qual params body scope dV kV doc pm an cdv ct), osl⟩ ∧ PySem.W.codeIn K cdv qual = true ∧ FnScope N ps scope ∧ ckSs fuel (gOf m N scope) D.body body = true ∧ N.length = D.nslot
  par : ps.length = D.npar
  binds : Binds K fd ps []
  kp : PySem.W.keepIn K (.ref (C.fa f)) = true
/-- the module as the defs see it -/
structure MOk (Pg : Program) (K : PySem.W.Frag) (mg : Str → Option Value) (m : MG) (C : RC) (P : Prog) (fuel : Nat) : Prop where
  kk : C.K = K
  ex : C.ex = none
  exs : ∀ p ∈ m.exs, mg p.1 = some (.ref (C.ca p.2.1)) ∧ C.nm p.2.1 = p.2.2 ∧ ExOk K Pg C p.2.1
  exm : ∀ c, c < C.ncl → ∀ q ∈ m.exs, PySem.W.exmOne K (.ref (C.ca c)) (.ref (C.ca q.2.1)) = some (P.sub c q.2.1)
  sup : mg "super" = none
  blt : ∀ x ∈ m.blt, mg x = none
  cons : ∀ p ∈ m.cons, ∃ u v, mg p.1 = some u ∧ RelV v u ∧ ∀ M π H, RV C M π H (P.glos.getD p.2 .non) v
  fns : ∀ p ∈ m.fns, mg p.1 = some (.ref (C.fa p.2))
  txt : ∀ p ∈ m.fns, ∃ D fd ps, P.funs[p.2]? = some D ∧ FnT K m C fuel p.2 D fd ps
section
variable {C : RC} {Pg : Program} {w : World} {K : PySem.W.Frag} {mg : Str → Option Value} {base : Heap} {m : MG} {P : Prog} {fuel : Nat}
theorem frm0 {M0 π0 : List Addr} {H0 : Hp} (h0 : ∀ a ∈ π0, a ∈ M0) : Frm (fun ow M π H => ow = M0 ∧ St M0 π0 H0 M π H) where
  st := fun h hs s => ⟨h.1, h.2.trans h0 s⟩
  pk := fun {ow M π H a o o'} h ha hp hw ho mt => by
    obtain ⟨rfl, s⟩ := h
    have n : H0 a = none := by
      rcases s.new a ha with z | z
      · exact absurd z hw
      · exact z
    exact ⟨rfl, s.poke n⟩
  bx := fun {ow M π H a} h ha hw => by
    obtain ⟨rfl, s⟩ := h
    have n : H0 a = none := by
      rcases s.new a ha with z | z
      · exact absurd z hw
      · exact z
    obtain ⟨r, hr⟩ := s.pre
    refine ⟨rfl, ⟨r ++ [a], by rw [hr, List.append_assoc]⟩, s.sub, s.new, s.ext, fun b hb => ?_, s.bk⟩
    rcases List.mem_append.mp hb with hb | hb
    · exact s.nw2 b hb
    · rw [List.mem_singleton.mp hb]
      exact .inr n
theorem sub_cf (d : Nat) (a b : Nat) : (cfN P d).sub a b = P.sub a b := by cases d <;> rfl
theorem glo_cf (d : Nat) (n : Nat) : (cfN P d).glo n = P.glos.getD n .non := by cases d <;> rfl
/-- less is excluded -/
theorem lessA {M' π' ow L : List Addr} {H' : Hp} {en : Env} {σ : L2.St} {μ' : Sto} (R' : RA C M' π' ow H' en σ μ') (hs : ∀ b ∈ L, b ∈ M') (hp : ∀ a ∈ π', a ∈ L) : RA C L π' L H' [] [] μ' :=
  ⟨rfl, fun i v e => by simp at e, fun i j v w u e => by simp at e, fun i o e => by
    obtain ⟨a, h1, h2⟩ := R'.sto i o e
    refine ⟨a, h1, ?_⟩
    cases o with
    | lst l => exact RO.less (v := .lv l) hs h2
    | dct ks vs => exact RO.less (v := .dv ks vs) hs h2, R'.sl, R'.nd, hp, fun _ h => h, fun a h => R'.trk a (hs a h)⟩
theorem lessS {M π M' π' L : List Addr} {H H' : Hp} (s : St M π H M' π' H') (h1 : ∀ a ∈ M, a ∈ L) (h2 : ∀ b ∈ L, b ∈ M ∨ H b = none) : St M π H L π' H' := ⟨s.pre, h1, h2, s.ext, s.nw2, s.bk⟩
/-- a def one call deeper -/
theorem fn_step (mo : MOk Pg K mg m C P fuel) (d : Nat) (ih : ∀ p ∈ m.fns, ∃ k fd ps, k ≤ d + 20 ∧ FnG Pg w K mg base k (C.fa p.2) fd ps (spF C (cfN P d) p.2) ∧ PySem.W.keepIn K (.ref (C.fa p.2)) = true ∧ Binds K fd ps []) {f : Nat} {D : FD} {fd : FuncData} {ps : List Str} (hD : P.funs[f]? = some D) (t : FnT K m C fuel f D fd ps) :
    FnG Pg w K mg base (d + 21) (C.fa f) fd ps (spF C (cfN P (d + 1)) f) := by
  obtain ⟨⟨name, qual, params, body, scope, dV, kV, doc, pm, cdv, ct, oc, an, od, osl, N, rfl, lk, hcd, S, hck, hN⟩, hpar, hb, hk⟩ := t
  have hcall : ∀ (l : List PV) (μ : Sto), (cfN P (d + 1)).call f l μ = if l.length = D.npar then outR (evSs (cfN P d) D.body (entry D.nslot l) μ) else .err := fun l μ => by
    show (match P.funs[f]? with
      | some D => if l.length = D.npar then outR (evSs (cfN P d) D.body (entry D.nslot l) μ) else .err
      | none => .err) = _
    rw [hD]
  have len : ∀ vs H Q E, spF C (cfN P (d + 1)) f vs H Q E → vs.length = ps.length := fun vs H Q E ⟨l, μ, π, M, R, r, h⟩ => by
    rw [hcall] at h
    split at h
    · rename_i e
      rw [← r.length, e, hpar]
    · exact h.elim
  refine ⟨len, fun A outer s H args us vs Q E hr hgd e0 hbd r hsp => ?_⟩
  have hl := len _ _ _ _ hsp
  refine LamX.run_ofS (k := d + 20) (N := N) (ps := ps) lk hcd S hr e0 hbd r hl fun hr' => ?_
  obtain ⟨l, μ, π, M, R, rl, hp⟩ := hsp
  rw [hcall] at hp
  split at hp
  · rename_i el
    refine ⟨tS C (fun cls d σ H => E cls d H) (fun ow M' π' H' => ow = M ∧ St M π H M' π' H') (evSs (cfN P d) D.body), ?_, ?_⟩
    · refine (all_okS (cfN P d) fuel).pss (g := gOf m N scope) (C := C) ?_ (passes_of rfl) ⟨rfl, rfl⟩ (frm0 R.sub) hck
      refine ⟨mo.kk, rfl, rfl, S.kind, fun _ _ => rfl, S.nd, fun _ => rfl, ?_, ?_, mo.blt, fun p hp => ?_, mo.fns, fun _ p hp => ?_, mo.exs, fun c hc q hq => (by rw [sub_cf]; exact mo.exm c hc q hq), fun _ => mo.ex, fun a c d e => (by rw [mo.ex] at e; cases e), mo.sup, ?_, ?_⟩
      · have := hr'.un
        show (A.deeper _).units + 300 < cLine
        omega
      · exact hgd
      · obtain ⟨u, v, h1, h2, h3⟩ := mo.cons p hp
        exact ⟨u, v, h1, h2, fun M π H => by rw [glo_cf]; exact h3 M π H⟩
      · obtain ⟨k, fd', ps', h1, h2, h3, h4⟩ := ih p hp
        exact ⟨k, fd', ps', h2, hr'.mono h1, h3, h4⟩
      · have := (hr'.mono (show 3 ≤ d + 20 by omega)).dp
        show (A.deeper (envOfC qual scope s.heap.objs.size (C.fa f) cdv)).depth + 2 < recursionLimit
        omega
      · exact takes_of rfl rfl rfl rfl
    · have ent : ∀ (i : Nat) (v : PV), (entry D.nslot l)[i]? = some (some v) → l[i]? = some v := fun i v e => by
        unfold entry at e
        by_cases z : i < l.length
        · rw [List.getElem?_append_left (by simpa using z), List.getElem?_map] at e
          cases q : l[i]? with
          | none => rw [q] at e; cases e
          | some w => rw [q] at e; cases e; rfl
        · rw [List.getElem?_append_right (by simpa using z), List.getElem?_replicate] at e
          split at e
          · cases e
          · cases e
      have stt : ∀ (i : Nat) (x : V), vs[i]? = some x → (L2.start N vs)[i]? = some (some x) := fun i x e => by
        unfold L2.start
        rw [List.getElem?_append_left (by have := (List.getElem?_eq_some_iff.mp e).1; simpa using this), List.getElem?_map, e]
        rfl
      have noown : ∀ {v w : PV} {x : V}, RV C M π H v x → v ≠ .own w := fun h e => by
        subst e
        unfold RV at h
        exact h
      have R0 : RA C M π M H (entry D.nslot l) (L2.start N vs) μ := by
        refine ⟨?_, fun i v e => ?_, fun i j a b u e1 e2 e3 e4 => ?_, R.sto, R.sl, R.nd, R.sub, fun _ h => h, R.trk⟩
        · unfold L2.start entry
          simp only [List.length_append, List.length_map, List.length_replicate]
          rw [hN, rl.length]
        · obtain ⟨x, h1, h2⟩ := rl.get (ent i v e)
          refine ⟨some x |>.get rfl, stt i x h1, ?_⟩
          exact RE.of h2
        · obtain ⟨x, h1, h2⟩ := rl.get (ent i _ e1)
          exact absurd rfl (noown h2)
      refine ⟨entry D.nslot l, μ, π, M, M, R0, ⟨rfl, .refl⟩, ?_⟩
      have base0 : ∀ {M' π' : List Addr} {H' : Hp} {en' : Env} {σ' : L2.St} {μ' : Sto}, RA C M' π' M H' en' σ' μ' → RA C M' π' M' H' [] [] μ' := fun R' => ⟨rfl, fun i v e => by simp at e, fun i j v w u e => by simp at e, R'.sto, R'.sl, R'.nd, R'.sub, fun _ h => h, R'.trk⟩
      cases er : evSs (cfN P d) D.body (entry D.nslot l) μ with
      | err => rw [er] at hp; exact hp.elim
      | exc c fs en' μ' =>
        rw [er] at hp
        exact fun cls dd σ' H' π' M' R' hF rx => hp cls dd H' π' M' (base0 R') hF.2 rx
      | ok fl en' μ' =>
        rw [er] at hp
        cases fl with
        | nx => exact fun σ' H' π' M' R' hF => hp .non H' π' M' (base0 R') hF.2 (by unfold RV; rfl)
        | bk => exact hp.elim
        | ct => exact hp.elim
        | rt v =>
          intro u σ' H' π' M' R' hF rv
          have hs : ∀ b ∈ M ++ π', b ∈ M' := fun b hb => by
            rcases List.mem_append.mp hb with hb | hb
            · exact R'.a0 b hb
            · exact R'.sub b hb
          exact postF_rv (v := v) hp (lessA R' hs (fun a h => List.mem_append_right _ h)) (lessS hF.2 (fun a h => List.mem_append_left _ h) fun b hb => by
            rcases List.mem_append.mp hb with hb | hb
            · exact .inl hb
            · rcases hF.2.nw2 b hb with z | z
              · exact .inl (R.sub b z)
              · exact .inr z) rv
        | ro v =>
          intro a σ' H' π' M' R' hF h1 h2 h3 ro
          have hs : ∀ b ∈ a :: (M ++ π'), b ∈ M' := fun b hb => by
            rcases List.mem_cons.mp hb with rfl | hb
            · exact h1
            · rcases List.mem_append.mp hb with hb | hb
              · exact R'.a0 b hb
              · exact R'.sub b hb
          have na : H a = none := by
            rcases hF.2.new a h1 with z | z
            · exact absurd z h3
            · exact z
          have hp : ∀ a H' π' M', RA C M' π' M' H' [] [] μ' → St M π H M' π' H' → H a = none → a ∈ M' → a ∉ π' → RO C M' π' H' a v → Q (.ref a) H' := hp
          exact hp a H' π' (a :: (M ++ π')) (lessA R' hs (fun b h => List.mem_cons_of_mem _ (List.mem_append_right _ h))) (lessS hF.2 (fun b h => List.mem_cons_of_mem _ (List.mem_append_left _ h)) fun b hb => by
            rcases List.mem_cons.mp hb with rfl | hb
            · exact .inr na
            · rcases List.mem_append.mp hb with hb | hb
              · exact .inl hb
              · rcases hF.2.nw2 b hb with z | z
                · exact .inl (R.sub b z)
                · exact .inr z) na List.mem_cons_self h2 (ro.less hs)
  · exact hp.elim
/-- every def, any depth -/
theorem fn_all (mo : MOk Pg K mg m C P fuel) : ∀ d, ∀ p ∈ m.fns, ∃ k fd ps, k ≤ d + 20 ∧ FnG Pg w K mg base k (C.fa p.2) fd ps (spF C (cfN P d) p.2) ∧ PySem.W.keepIn K (.ref (C.fa p.2)) = true ∧ Binds K fd ps []
  | 0, p, hp => by
    obtain ⟨D, fd, ps, hD, t⟩ := mo.txt p hp
    refine ⟨0, fd, ps, by omega, ⟨fun vs H Q E ⟨l, μ, π, M, R, r, h⟩ => h.elim, fun A outer s H args us vs Q E hr hgd e0 hbd r ⟨l, μ, π, M, R, r', h⟩ => h.elim⟩, t.kp, t.binds⟩
  | d + 1, p, hp => by
    obtain ⟨D, fd, ps, hD, t⟩ := mo.txt p hp
    exact ⟨d + 21, fd, ps, by omega, fn_step mo d (fn_all mo d) hD t, t.kp, t.binds⟩
end
end OL
end
section
set_option Elab.async false
set_option linter.all false
set_option maxRecDepth 100000
set_option maxHeartbeats 4000000
/-! OL, part z: a law's end. -/
namespace OL
open PySem PySem.Spec PyProof.Rows L2
section
variable {P : Program} {w : World} {K : PySem.W.Frag} {mg mb : Str → Option Value} {k : Nat} {fa a : Addr} {fd : FuncData} {x : Str} {sp : Sp} {s1 : Shared} {vs : List Value} {ns : List Int}
/-- the abstract heap at the law's entry: the script alone, as it stands, unless it is of the written part -/
def scriptH (K : PySem.W.Frag) (a : Addr) (o : Obj) (ns : List Int) : Hp := fun b => if b = a ∧ K.lookup a = none then some (.frz o (.lst (ns.map V.int))) else none
theorem scriptH_no {K : PySem.W.Frag} {a b : Addr} {o : Obj} {ns : List Int} (h : b ≠ a) : scriptH K a o ns b = none := if_neg fun z => h z.1
theorem scriptH_K {K : PySem.W.Frag} {a b : Addr} {o u : Obj} {ns : List Int} (h : K.lookup b = some u) : scriptH K a o ns b = none := if_neg fun z => by
  rw [← z.1, h] at z
  cases z.2
theorem law_end (KX : K.In s1.heap) (hns : s1.heap.Ns mainGlobals mg) (hb : s1.heap.Ns builtinsNs mb) (hbb : ∀ y : Str, y ≠ "__name__" → mb y = bootBuiltins y) (hlim : s1.heap.NoLimit) (hg : s1.gens = #[])
    (ha : s1.heap.get? a = some { cls := .type "list", data := .seq vs.toArray }) (hi : IntsAre vs ns) (hl : ns.length ≤ sizeLine) (hr : Room k callerA) (hbind : ∀ (s : Shared) (u : Value), BindsTo s fd ⟨[u], []⟩ [(x, u)])
    (F : ∀ base : Heap, K.In base → base.Ns mainGlobals mg → FnG P w K mg base k fa fd [x] sp) (hsp : ∀ H : Hp, SqF K H a (ns.map V.int) → sp [.ref a] H (fun v _ => v = .bl true) fun _ _ _ => False) :
    codeAny (model P w) callerA (.call (.ref fa) ⟨[.ref a], []⟩) (fun r s' => r = .ok (.ret (.bool true)) ∧ OldK s1.heap s'.heap ∧ s'.os = s1.os ∧ AllBare s'.gens) s1 := by
  have hv := vals_ints hi
  have hvl := hi.length
  obtain ⟨H, eH⟩ : ∃ H, H = scriptH K a { cls := .type "list", data := .seq vs.toArray } ns := ⟨_, rfl⟩
  have cases_ : ∀ b u, H b = some u → b = a ∧ K.lookup a = none ∧ u = .frz { cls := .type "list", data := .seq vs.toArray } (.lst (ns.map V.int)) := fun b u e => by
    rw [eH] at e
    unfold scriptH at e
    split at e
    · rename_i z
      exact ⟨z.1, z.2, (Option.some.inj e).symm⟩
    · cases e
  have frozen : SqF K H a (ns.map V.int) := by
    cases e : K.lookup a with
    | none => exact .inl ⟨_, by rw [eH]; exact if_pos ⟨rfl, e⟩⟩
    | some o =>
      have z := KX a o e
      rw [ha] at z
      cases z
      exact .inr ⟨_, vs.toArray, _, e, rfl, rfl, rfl, by rw [List.size_toArray, hvl]; exact hl, by simpa using hv⟩
  have ok : HOk P w H s1.heap := fun b u e => by
    obtain ⟨rfl, _, rfl⟩ := cases_ b u e
    exact ⟨ha, by rw [List.length_map]; exact hl, vs, _, hv, ha⟩
  -- what stays in sight
  have seen : ∀ {b : Addr} {o : Obj}, s1.heap.get? b = some o → H b = none → (hidT s1.heap H).get? b = some o := fun e n => hidT_get e n
  have dicts : ∀ {b : Addr} {m : Str → Option Value}, s1.heap.Ns b m → (hidT s1.heap H).Ns b m := fun {b m} h => by
    obtain ⟨o, es, ep, e, d, r⟩ := h
    refine ⟨o, es, ep, seen e ?_, d, r⟩
    cases q : H b with
    | none => rfl
    | some u =>
      obtain ⟨rfl, _, _⟩ := cases_ b u q
      rw [ha] at e
      cases e
      exact nomatch (show Data.seq vs.toArray _ = Data.dict es ep from d)
  have inB : K.In (hidT s1.heap H) := fun b o e => seen (KX b o e) (by rw [eH]; exact scriptH_K e)
  obtain ⟨mc, l1, l2⟩ := hlim
  have md : Mod K mg (hidT s1.heap H) := ⟨inB, dicts hns, ⟨mb, dicts hb, hbb⟩, mc, dicts l1, l2⟩
  have env : Env0 P w K mg (hidT s1.heap H) callerA [] s1 H := ⟨rfl, md, fun b o e => of_hidT e, Nat.le_of_eq (hidT_size _ _), trivial, (fun b z => nomatch (show b ∈ ([] : List Addr) from z)), ok, .of_eq hg⟩
  refine codeAny_mono ((F _ inB (dicts hns)).run callerA [] s1 H ⟨[.ref a], []⟩ [.ref a] [.ref a] _ _ hr rfl env (hbind s1 (.ref a)) (.cons rfl .nil) (hsp H frozen)) fun r s' h => ?_
  cases r with
  | error e =>
    obtain ⟨_, _, _, _, _, _, _, _, _, _, _, _, z⟩ := h
    exact z.elim
  | ok fl =>
    cases fl with
    | ret u =>
      obtain ⟨v, H2, os, bare, un, ok2, rv, rfl⟩ := h
      cases (show u = Value.bool true from rv)
      refine ⟨rfl, OldK.of_keep fun b o e => ?_, os, bare⟩
      cases q : H b with
      | none => exact un.keep b o e q (fun z => nomatch (show b ∈ ([] : List Addr) from z)) (fun z => nomatch (show b ∈ ([] : List Addr) from z))
      | some t =>
        obtain ⟨rfl, _, rfl⟩ := cases_ b t q
        rw [ha] at e
        cases e
        exact (ok2 _ _ (un.frzs _ _ _ q)).1
    | _ => exact h.elim
end
/-- a law by its def's promise -/
theorem walk_ol {l : PySem.W.OpenLaw} {n k : Nat} {q : Program} {loose : List Str} {XP : (Str → Option Value) → Heap → Prop} {YP : World → Heap → Prop} {d : DefRec} {x : Str} (hn : l.most = some n) (hn2 : n ≤ sizeLine) (hdf : d.params.defaults = []) (hr : Room k callerA)
    (F : ∀ (w : World) (mg : Str → Option Value) (fa : Addr) (h : Heap), YP w h → h.Ns mainGlobals mg → mg d.name = some (.ref fa) → ∃ (K : PySem.W.Frag) (fd : FuncData) (sp : Sp), K.In h ∧ (∀ (s : Shared) (u : Value), BindsTo s fd ⟨[u], []⟩ [(x, u)]) ∧
      (∀ (H : Hp) (a : Addr) (ns : List Int), ns.length ≤ n → SqF K H a (ns.map V.int) → sp [.ref a] H (fun v _ => v = .bl true) fun _ _ _ => False) ∧ ∀ base : Heap, K.In base → base.Ns mainGlobals mg → FnG l.prog w K mg base k fa fd [x] sp) :
    PySem.W.WalkO q loose XP YP l.row.toRowW d [] (fun f vs => PySem.call f vs) := by
  refine Att.attach_call hn hdf fun w s0 s1 mg mb fa o pm cd doc a vs ns G Y ho hd hcd hmg hobj hints hlen hg => ?_
  obtain ⟨K, fd, sp, KX, hb, hsp, hF⟩ := F w mg fa _ Y G.T.g hmg
  exact law_end KX G.T.g G.T.b G.T.builtins G.T.nolimit hg hobj hints (Nat.le_trans hlen hn2) hr hb hF fun H hS => hsp H a ns hlen hS
/-- what the interpreter must say of the law's def f -/
def Runs (P : Prog) (d f n : Nat) : Prop := ∀ ns : List Int, ns.length ≤ n → ∃ μ, (cfN P d).call f [.sc (ns.map .int)] [] = .ok (.bl true) μ
theorem runs_sp {C : RC} {P : Prog} {d f n : Nat} (h : Runs P d f n) (H : Hp) (a : Addr) (ns : List Int) (hn : ns.length ≤ n) (hS : SqF C.K H a (ns.map V.int)) : spF C (cfN P d) f [.ref a] H (fun v _ => v = .bl true) fun _ _ _ => False := by
  obtain ⟨μ, e⟩ := h ns hn
  have intsR : ∀ l : List Int, RVs C [] [] H (l.map PV.int) (l.map V.int) := fun l => by
    induction l with
    | nil => exact .nil
    | cons i l ih => exact .cons (by unfold RV; rfl) ih
  refine ⟨[.sc (ns.map .int)], [], [], [], ⟨rfl, fun i v e => by simp at e, fun i j v w u e => by simp at e, fun i o e => by simp at e, rfl, List.nodup_nil, fun a h => h, fun a h => h, fun a h => by simp at h⟩, .cons ?_ .nil, ?_⟩
  · unfold RV
    exact ⟨a, _, rfl, hS, intsR ns⟩
  · rw [e]
    exact fun u H' π' M' R s r => r
end OL
end
section
set_option Elab.async false
set_option linter.all false
set_option maxRecDepth 100000
set_option maxHeartbeats 4000000
/-! OL, part za: what the top leaves, as facts; the module as the defs see it. -/
namespace OL
open PySem PySem.Spec PyProof.Rows L2
/-! ### a part of the heap, by a look -/
theorem frG_look {g : Addr → Option Obj} {a : Addr} : ∀ {as : List Addr}, a ∈ as → (He.frG g as).lookup a = g a
  | [], h => by cases h
  | b :: r, h => by
    unfold He.frG
    rw [List.filterMap_cons]
    by_cases e : a = b
    · subst e
      cases hg : g a with
      | none =>
        show (He.frG g r).lookup a = none
        by_cases hr : a ∈ r
        · rw [frG_look hr, hg]
        · cases q : (He.frG g r).lookup a with
          | none => rfl
          | some o => rw [He.frG_at r q] at hg; cases hg
      | some o => simp [List.lookup]
    · have hr : a ∈ r := (List.mem_cons.mp h).resolve_left e
      cases hg : g b with
      | none => exact frG_look hr
      | some o =>
        have : (a == b) = false := by simpa using e
        show (match a == b with | true => some o | false => (He.frG g r).lookup a) = _
        rw [this]
        exact frG_look hr
theorem look_lt {g : Addr → Option Obj} {n : Nat} {a : Addr} (h : decide (a < n) = true) : (frN g n).lookup a = g a := frG_look (List.mem_cons_of_mem _ (List.mem_cons_of_mem _ (List.mem_range.mpr (of_decide_eq_true h))))
theorem look_mg {g : Addr → Option Obj} {n : Nat} : (frN g n).lookup mainGlobals = g mainGlobals := frG_look List.mem_cons_self
/-! ### constants -/
section
variable {g : Addr → Option Obj} {n : Nat} {C : RC}
mutual
theorem valB_ok (hK : C.K = frN g n) : ∀ {v : PV} {u : Value}, valB g n v u = true → ∃ x, RelV x u ∧ ∀ M π H, RV C M π H v x
  | .non, u, h => by
    cases u with
    | none => exact ⟨.non, rfl, fun M π H => by unfold RV; rfl⟩
    | _ => unfold valB at h; cases h
  | .bl b, u, h => by
    cases u with
    | bool c =>
      unfold valB at h
      rw [eq_of_beq h]
      exact ⟨.bl c, rfl, fun M π H => by unfold RV; rfl⟩
    | _ => unfold valB at h; cases h
  | .int i, u, h => by
    cases u with
    | int j t =>
      unfold valB at h
      rw [of_decide_eq_true h]
      exact ⟨.int j, ⟨t, rfl⟩, fun M π H => by unfold RV; rfl⟩
    | _ => unfold valB at h; cases h
  | .str i, u, h => by
    cases u with
    | str j t =>
      unfold valB at h
      rw [of_decide_eq_true h]
      exact ⟨.str j, ⟨t, rfl⟩, fun M π H => by unfold RV; rfl⟩
    | _ => unfold valB at h; cases h
  | .tup l, u, h => by
    cases u with
    | ref a =>
      unfold valB at h
      rw [Bool.and_eq_true] at h
      obtain ⟨h0, h⟩ := h
      split at h
      · rename_i c dd its m sl e
        simp only [Bool.and_eq_true, decide_eq_true_eq] at h
        obtain ⟨⟨h1, h2⟩, h3⟩ := h
        obtain ⟨xs, r, q⟩ := valsB_ok hK h3
        refine ⟨.ref a, rfl, fun M π H => ?_⟩
        unfold RV
        exact ⟨a, xs, rfl, .inr ⟨_, its, m, by rw [hK, look_lt h0]; exact e, congrArg Value.type h1, rfl, h2, r⟩, q M π H⟩
      · cases h
    | _ => unfold valB at h; cases h
  | .lv _, u, h => by unfold valB at h; cases h
  | .dv _ _, u, h => by unfold valB at h; cases h
  | .ref _, u, h => by unfold valB at h; cases h
  | .fn _, u, h => by unfold valB at h; cases h
  | .exc _ _, u, h => by unfold valB at h; cases h
  | .clo _ _, u, h => by unfold valB at h; cases h
  | .sc _, u, h => by unfold valB at h; cases h
  | .rg _ _ _, u, h => by unfold valB at h; cases h
  | .enu _ _, u, h => by unfold valB at h; cases h
  | .own _, u, h => by unfold valB at h; cases h
theorem valsB_ok (hK : C.K = frN g n) : ∀ {l : List PV} {us : List Value}, valsB g n l us = true → ∃ xs, Vals xs us ∧ ∀ M π H, RVs C M π H l xs
  | [], [], h => ⟨[], .nil, fun M π H => .nil⟩
  | [], u :: us, h => by unfold valsB at h; cases h
  | v :: l, [], h => by unfold valsB at h; cases h
  | v :: l, u :: us, h => by
    unfold valsB at h
    rw [Bool.and_eq_true] at h
    obtain ⟨x, r, q⟩ := valB_ok hK h.1
    obtain ⟨xs, rs, qs⟩ := valsB_ok hK h.2
    exact ⟨x :: xs, .cons r rs, fun M π H => .cons (q M π H) (qs M π H)⟩
end
end
/-! ### error classes -/
theorem eqv {a b : Option (Option Value)} (h : He.eqO a b = true) : a = b := He.eqO_ok h
theorem XD.exT {K : PySem.W.Frag} {P : Program} {x : XD} (e : fnI K (x.fI K) = x.val) (h : x.ok K P = true) : PySem.W.nsIn K mainGlobals x.name = some (some (.ref (He.ga K x.name))) ∧ ExT K P (He.ga K x.name) (x.fI K) x.fs ∧ XfC K (He.ga K x.name) := by
  unfold XD.ok at h
  simp only [Bool.and_eq_true, decide_eq_true_eq, Bool.not_eq_true'] at h
  obtain ⟨⟨⟨⟨⟨⟨⟨⟨⟨⟨⟨⟨⟨⟨⟨⟨⟨⟨h1, h2⟩, h3⟩, h4⟩, h5⟩, h6⟩, h7⟩, h8⟩, h9⟩, h10⟩, h11⟩, h12⟩, h13⟩, h14⟩, h15⟩, h16⟩, h17⟩, h18⟩, h19⟩ := h
  refine ⟨eqv h1, ⟨?_, h19, eqv h3, fun f hf => eqv (List.all_eq_true.mp h4 f hf), eqv h5, h6, h7, h8, h9, h10, h11, h12, h13, h14, h15, ?_⟩, xfB_ok h17⟩
  · unfold exClsB at h2
    split at h2
    · rename_i dd cd sl ho
      split at h2
      · rename_i C' bm k0 k1 k2 k3 n k5 hm hs
        simp only [Bool.and_eq_true, decide_eq_true_eq, Bool.not_eq_true'] at h2
        obtain ⟨⟨⟨⟨rfl, rfl⟩, hdel⟩, hdc⟩, ht⟩ := h2
        obtain ⟨nm, bs, mro, ns, qn, hd, sn, sub, ab, col, del⟩ := cd
        dsimp only at hm hdel hdc
        subst hm hdel hdc
        have hsl : sl = #[k0, k1, k2, k3, some (.builtin "ValueError.__new__"), k5] := by
          obtain ⟨l⟩ := sl
          simp only at hs
          rw [hs]
        subst hsl
        exact ⟨nm, qn, ns, bs, bm, sn, sub, ab, col, dd, k0, k1, k2, k3, k5, ho, ht⟩
      · cases h2
    · cases h2
  · unfold iniB at h16
    unfold fnI at e
    split at h16
    · rename_i oc od fd osl ho
      rw [ho] at e
      obtain ⟨n1, n2, n3, n4, n5, n6, n7, n8, n9, n10, n11, n12, n13, n14, n15⟩ := fd
      have e2 : (some (n1, n2, n3, n4, n5, n6, n15) : FnI) = some (("__init__" : Str), x.qual, iArgs x.fs x.pos.1, .stmts (iBody x.fs x.pos.2 x.pos.1), iScope x.fs, mainGlobals, builtinsNs) := e
      simp only [Option.some.injEq, Prod.mk.injEq] at e2
      obtain ⟨g1, g2, g3, g4, g5, g6, g8⟩ := e2
      subst g1 g2 g3 g4 g5 g6 g8
      simp only [Bool.and_eq_true] at h16
      obtain ⟨⟨⟨⟨q1, q2⟩, q3⟩, q4⟩, q5⟩ := h16
      split at q4
      · rename_i n cc
        rw [Bool.and_eq_true] at q4
        obtain ⟨q4, q6⟩ := q4
        split at q6
        · rename_i cl cld D csl hcc
          split at q5
          · rename_i cda
            split at q5
            · rename_i ccl cdd vs ccs hcda
              split at q5
              · rename_i file tf hvs
                have := of_decide_eq_true q4
                subst this
                have := of_decide_eq_true q6
                subst this
                cases n8 <;> first | (cases q1; done) | skip
                cases n9 <;> first | (cases q2; done) | skip
                exact ⟨oc, od, x.qual, x.pos.2, x.pos.1, n10, n11, n12, cda, cc, n14, osl, file, tf, ccl, cl, cdd, cld, vs, ccs, csl, ho, h18, q3, hcda, hvs, q5, hcc⟩
              · cases q5
            · cases q5
          · cases q5
        · cases q6
      · cases q4
    · cases h16

/-! ### the module -/
def Md.mg (m : Md) : MG := ⟨m.defs.zipIdx.map fun p => (p.1.d.at_.1, p.2), m.cons.zipIdx.map fun p => (p.1.1, p.2), m.blt, m.xds.zipIdx.map fun p => (p.1.name, p.2, p.1.fs)⟩
def Md.prog (m : Md) : Prog := ⟨m.defs.map (·.D), [], m.cons.map (·.2), m.loop, fun a b => decide (a = b)⟩
def Md.rc (m : Md) (K : PySem.W.Frag) : RC := ⟨K, fun i => ((m.defs[i]?).map fun x => He.fAd K x.d.at_).getD 0, fun i => ((m.xds[i]?).map fun x => He.ga K x.name).getD 0, fun i => ((m.xds[i]?).map (·.fs)).getD [], none, m.xds.length, []⟩
structure DOk (m : Md) (x : DD) : Prop where
  at0 : x.d.at_.2 = none
  dfl : x.d.dfl = []
  kwd : x.d.kwd = []
  sc : FnScope x.N x.ps x.d.scope
  ck : ckSs m.fuel (gOf m.mg x.N x.d.scope) x.D.body x.d.body = true
  nl : x.N.length = x.D.nslot
  pl : x.ps.length = x.D.npar
  bd : ∀ (kV doc pm : Value) (an : Option Addr) (cdv ct : Value) (us : List Value), us.length = x.ps.length → bindArgs (PySem.W.fnOf x.d.name x.d.qual x.d.params x.d.body x.d.scope .none kV doc pm an cdv ct) ⟨us, []⟩ = pure (x.ps.zip us)
theorem codeG_ok {g : Addr → Option Obj} {n : Nat} {cd : Value} {q : Str} (h : codeG g n cd q = true) : PySem.W.codeIn (frN g n) cd q = true := by
  unfold codeG at h
  split at h
  · rename_i c
    rw [Bool.and_eq_true] at h
    obtain ⟨h0, h⟩ := h
    simp only [PySem.W.codeIn, look_lt h0]
    exact h
  · cases h
/-- what the names' table must be: each name once, none with two low lines, none a built-in's -/
structure MdOk (m : Md) : Prop where
  nd : (m.ord.map GS.name).Nodup
  low : (m.ord.all fun s => !dun s.name) = true
  blt : (m.blt.all fun x => !dun x && !(m.ord.map GS.name).contains x) = true
  sup : (!(m.ord.map GS.name).contains ("super" : Str)) = true
theorem isStr_str {v : Value} {x : Str} (h : v.isStr x = true) : ∃ t, v = .str x t := by
  cases v with
  | str y t =>
    have h : (y == x) = true := h
    rw [eq_of_beq h]
    exact ⟨t, rfl⟩
  | _ => cases h
def GS.At (g : Addr → Option Obj) (n : Nat) (s : GS) (u : Value) : Prop := match s with
  | .fn x => defG g n x u = (true, x.d.val)
  | .con _ v => valB g n v u = true
  | _ => True
/-- the entries say what is asked -/
theorem entG_ok {g : Addr → Option Obj} {n : Nat} : ∀ {l : List GS} {es : List DictEntry} {fs : List He.FnW}, entG g n l es = (true, fs) → fs = (l.filterMap GS.fn?).map (fun x => x.d.val) →
    l.length = es.length ∧ ∀ (i : Nat) (s : GS), l[i]? = some s → ∃ e, es[i]? = some e ∧ e.key.isStr s.name = true ∧ GS.At g n s e.val
  | [], [], fs, h, hf => ⟨rfl, fun i s e => by simp at e⟩
  | [], e :: es, fs, h, hf => by cases h
  | s :: l, [], fs, h, hf => by cases h
  | s :: l, e :: es, fs, h, hf => by
    have step : ∀ {fs' : List He.FnW}, entG g n l es = (true, fs') → fs' = (l.filterMap GS.fn?).map (fun x => x.d.val) → (e.key.isStr s.name = true ∧ GS.At g n s e.val) → (s :: l).length = (e :: es).length ∧ ∀ (i : Nat) (s' : GS), (s :: l)[i]? = some s' → ∃ e', (e :: es)[i]? = some e' ∧ e'.key.isStr s'.name = true ∧ GS.At g n s' e'.val := fun {fs'} h1 h2 h3 => by
      obtain ⟨q1, q2⟩ := entG_ok h1 h2
      refine ⟨by simp [q1], fun i s' hs => ?_⟩
      cases i with
      | zero =>
        simp at hs
        subst hs
        exact ⟨e, rfl, h3⟩
      | succ i =>
        simp at hs
        obtain ⟨e', a, b⟩ := q2 i s' hs
        exact ⟨e', by simpa using a, b⟩
    cases s with
    | fn x =>
      have h1 : (e.key.isStr x.d.at_.1 && (defG g n x e.val).1 && (entG g n l es).1) = true := congrArg (·.1) h
      have h2 : (defG g n x e.val).2 :: (entG g n l es).2 = fs := congrArg (·.2) h
      simp only [Bool.and_eq_true] at h1
      have hf' : fs = x.d.val :: (l.filterMap GS.fn?).map (fun x => x.d.val) := hf
      rw [← h2] at hf'
      simp only [List.cons.injEq] at hf'
      exact step (fs' := (entG g n l es).2) (Prod.ext h1.2 rfl) hf'.2 ⟨h1.1.1, Prod.ext h1.1.2 hf'.1⟩
    | con nm v =>
      have h1 : (e.key.isStr nm && valB g n v e.val && (entG g n l es).1) = true := congrArg (·.1) h
      have h2 : (entG g n l es).2 = fs := congrArg (·.2) h
      simp only [Bool.and_eq_true] at h1
      exact step (fs' := fs) (Prod.ext h1.2 h2) hf ⟨h1.1.1, h1.1.2⟩
    | cls x =>
      have h1 : (e.key.isStr x.name && (entG g n l es).1) = true := congrArg (·.1) h
      have h2 : (entG g n l es).2 = fs := congrArg (·.2) h
      simp only [Bool.and_eq_true] at h1
      exact step (fs' := fs) (Prod.ext h1.2 h2) hf ⟨h1.1, trivial⟩
    | oth nm =>
      have h1 : (e.key.isStr nm && (entG g n l es).1) = true := congrArg (·.1) h
      have h2 : (entG g n l es).2 = fs := congrArg (·.2) h
      simp only [Bool.and_eq_true] at h1
      exact step (fs' := fs) (Prod.ext h1.2 h2) hf ⟨h1.1, trivial⟩
theorem nodup_at {α : Type} : ∀ {l : List α} {i j : Nat} {a : α}, l.Nodup → l[i]? = some a → l[j]? = some a → i = j
  | [], i, j, a, _, h, _ => by simp at h
  | b :: l, 0, 0, a, _, _, _ => rfl
  | b :: l, 0, j + 1, a, nd, h1, h2 => by
    simp at h1 h2
    subst h1
    exact absurd (List.mem_of_getElem? h2) (List.nodup_cons.mp nd).1
  | b :: l, i + 1, 0, a, nd, h1, h2 => by
    simp at h1 h2
    subst h2
    exact absurd (List.mem_of_getElem? h1) (List.nodup_cons.mp nd).1
  | b :: l, i + 1, j + 1, a, nd, h1, h2 => by
    simp at h1 h2
    rw [nodup_at (List.nodup_cons.mp nd).2 h1 h2]
theorem find_at {x : Str} : ∀ {es : List DictEntry} {i : Nat} {e : DictEntry}, es[i]? = some e → e.key.isStr x = true → (∀ j e', j < i → es[j]? = some e' → e'.key.isStr x = false) → es.find? (·.key.isStr x) = some e
  | [], i, e, h, _, _ => by simp at h
  | a :: es, 0, e, h, hx, _ => by
    simp at h
    subst h
    rw [List.find?_cons, hx]
  | a :: es, i + 1, e, h, hx, hn => by
    have h0 := hn 0 a (Nat.succ_pos i) rfl
    rw [List.find?_cons, h0]
    exact find_at (by simpa using h) hx fun j e' hj he => hn (j + 1) e' (Nat.succ_lt_succ hj) (by simpa using he)
/-- the names, by the table -/
theorem Md.look {m : Md} {P : Program} {n : Nat} {g : Addr → Option Obj} (ok : MdOk m) (c : m.obsG P n g = m.val) :
    (∀ (s : GS), s ∈ m.ord → ∃ v, PySem.W.nsIn (frN g n) mainGlobals s.name = some (some v) ∧ GS.At g n s v) ∧ (∀ x, dun x = false → x ∉ m.ord.map GS.name → PySem.W.nsIn (frN g n) mainGlobals x = some none) ∧ m.exB P (frN g n) = true ∧ m.xds.map (fun x => fnI (frN g n) (x.fI (frN g n))) = m.xds.map XD.val := by
  unfold Md.obsG at c
  split at c
  · rename_i oc od es ep sl hg
    have c1 : entG g n m.ord (es.toList.drop (es.toList.length - m.ord.length)) = (true, m.defs.map fun x => x.d.val) := congrArg (fun z : AlO => z.1) c
    have c2 : ((es.toList.take (es.toList.length - m.ord.length)).all (fun e => dunK e.key) && m.exB P (frN g n)) = true := congrArg (fun z : AlO => z.2.1) c
    have c3 : m.xds.map (fun x => fnI (frN g n) (x.fI (frN g n))) = m.xds.map XD.val := congrArg (fun z : AlO => z.2.2) c
    rw [Bool.and_eq_true] at c2
    obtain ⟨q1, q2⟩ := entG_ok c1 rfl
    have pre : ∀ j e', j < es.toList.length - m.ord.length → es.toList[j]? = some e' → ∃ s t, e'.key = .str s t ∧ dun s = true := fun j e' hj he => by
      have z := List.all_eq_true.mp c2.1 e' (List.mem_iff_getElem?.mpr ⟨j, by rw [List.getElem?_take, if_pos hj]; exact he⟩)
      unfold dunK at z
      split at z
      · rename_i s t e
        exact ⟨s, t, e, z⟩
      · cases z
    have suf : ∀ j e', ¬ j < es.toList.length - m.ord.length → es.toList[j]? = some e' → ∃ s, m.ord[j - (es.toList.length - m.ord.length)]? = some s ∧ e'.key.isStr s.name = true := fun j e' hj he => by
      have hjl := (List.getElem?_eq_some_iff.mp he).1
      rw [List.length_drop] at q1
      have hi : j - (es.toList.length - m.ord.length) < m.ord.length := by omega
      obtain ⟨e2, b1, b2, _⟩ := q2 _ _ (List.getElem?_eq_getElem hi)
      rw [List.getElem?_drop, show es.toList.length - m.ord.length + (j - (es.toList.length - m.ord.length)) = j by omega, he] at b1
      cases b1
      exact ⟨_, List.getElem?_eq_getElem hi, b2⟩
    have ns : ∀ x, PySem.W.nsIn (frN g n) mainGlobals x = (match es.toList.find? (·.key.isStr x) with
      | some e => some (some e.val)
      | none => if es.toList.any (·.refKey) then none else some none) := fun x => by
      unfold PySem.W.nsIn
      rw [look_mg, hg]
      rfl
    refine ⟨fun s hs => ?_, fun x hd hx => ?_, c2.2, c3⟩
    · obtain ⟨i, hi⟩ := List.mem_iff_getElem?.mp hs
      obtain ⟨e, b1, b2, b3⟩ := q2 i s hi
      rw [List.getElem?_drop] at b1
      refine ⟨e.val, ?_, b3⟩
      have hdun : dun s.name = false := by
        have := List.all_eq_true.mp ok.low s hs
        simpa using this
      rw [ns, find_at b1 b2 fun j e' hj he => ?_]
      by_cases hp : j < es.toList.length - m.ord.length
      · obtain ⟨z, t, k1, k2⟩ := pre j e' hp he
        rw [k1]
        show (z == s.name) = false
        have : z ≠ s.name := fun q => by rw [q, hdun] at k2; cases k2
        simpa using this
      · obtain ⟨s2, k1, k2⟩ := suf j e' hp he
        obtain ⟨t, k3⟩ := isStr_str k2
        rw [k3]
        show (s2.name == s.name) = false
        have : s2.name ≠ s.name := fun q => by
          have l1 : (m.ord.map GS.name)[j - (es.toList.length - m.ord.length)]? = some s.name := by rw [List.getElem?_map, k1, Option.map_some, q]
          have l2 : (m.ord.map GS.name)[i]? = some s.name := by rw [List.getElem?_map, hi, Option.map_some]
          have e3 := nodup_at ok.nd l1 l2
          omega
        simpa using this
    · rw [ns]
      have nof : es.toList.find? (·.key.isStr x) = none := List.find?_eq_none.mpr fun e he => by
        obtain ⟨j, hj⟩ := List.mem_iff_getElem?.mp he
        by_cases hp : j < es.toList.length - m.ord.length
        · obtain ⟨z, t, k1, k2⟩ := pre j e hp hj
          rw [k1]
          show ¬ (z == x) = true
          intro q
          rw [eq_of_beq q, hd] at k2
          cases k2
        · obtain ⟨s2, k1, k2⟩ := suf j e hp hj
          obtain ⟨t, k3⟩ := isStr_str k2
          rw [k3]
          show ¬ (s2.name == x) = true
          intro q
          exact hx (eq_of_beq q ▸ List.mem_map_of_mem (List.mem_of_getElem? k1))
      have nor : es.toList.any (·.refKey) = false := List.any_eq_false.mpr fun e he => by
        obtain ⟨j, hj⟩ := List.mem_iff_getElem?.mp he
        have : ∃ s t, e.key = .str s t := by
          by_cases hp : j < es.toList.length - m.ord.length
          · obtain ⟨z, t, k1, k2⟩ := pre j e hp hj
            exact ⟨z, t, k1⟩
          · obtain ⟨s2, k1, k2⟩ := suf j e hp hj
            obtain ⟨t, k3⟩ := isStr_str k2
            exact ⟨_, t, k3⟩
        obtain ⟨s, t, k⟩ := this
        unfold DictEntry.refKey
        rw [k]
        simp
      rw [nof, nor]
      rfl
  · have : false = true := congrArg (fun z : AlO => z.1.1) c
    cases this
theorem defG_ok {g : Addr → Option Obj} {n : Nat} {x : DD} {v : Value} (h0 : x.d.at_.2 = none) (h1 : x.d.dfl = []) (h2 : x.d.kwd = []) (e : PySem.W.nsIn (frN g n) mainGlobals x.d.at_.1 = some (some v)) (h : defG g n x v = (true, x.d.val)) :
    v = .ref (He.fAd (frN g n) x.d.at_) ∧ x.d.ok (frN g n) = true ∧ He.fnW (frN g n) x.d.at_ = x.d.val := by
  unfold defG at h
  split at h
  · rename_i a
    have ea : He.fAd (frN g n) x.d.at_ = a := by
      unfold He.fAd He.ga
      rw [h0, e]
    split at h
    · rename_i oc od fd osl lk
      obtain ⟨g1, g2⟩ := Prod.mk.injEq .. ▸ h
      simp only [Bool.and_eq_true] at g1
      obtain ⟨⟨⟨q0, q1⟩, q2⟩, q3⟩ := g1
      have lk : (frN g n).lookup a = some ⟨oc, od, .func fd, osl⟩ := (look_lt q0).trans lk
      have q1 := codeG_ok q1
      refine ⟨by rw [ea], ?_, ?_⟩
      · unfold He.DefD.ok
        rw [ea, lk]
        have kp : PySem.W.keepIn (frN g n) (.ref a) = true := by
          simp only [PySem.W.keepIn, lk]
        rw [kp]
        show (true && (PySem.W.codeIn (frN g n) fd.code x.d.qual && (He.dflB (frN g n) fd.defaults (x.d.dvs (frN g n)) && He.kwdB (frN g n) fd.kwdefaults (x.d.kws (frN g n))))) = true
        unfold He.DefD.dvs He.DefD.kws
        rw [h1, h2, q1]
        have d1 : He.dflB (frN g n) fd.defaults [] = true := by
          obtain ⟨n1, n2, n3, n4, n5, n6, n7, n8, n9, n10, n11, n12, n13, n14, n15⟩ := fd
          cases n8 <;> first | rfl | cases q2
        show (true && (true && (He.dflB (frN g n) fd.defaults [] && true))) = true
        rw [d1]
        rfl
      · unfold He.fnW
        rw [ea, lk]
        exact g2
    · cases h
  · cases h
theorem zip_mem {α : Type} {l : List α} {p : α × Nat} (h : p ∈ l.zipIdx) : l[p.2]? = some p.1 := by
  obtain ⟨i, e⟩ := List.mem_iff_getElem?.mp h
  rw [List.getElem?_zipIdx] at e
  cases q : l[i]? with
  | none => rw [q] at e; cases e
  | some a =>
    rw [q] at e
    cases e
    simpa using q
theorem map_at {α β : Type} {f : α → β} {g : α → β} {l : List α} (h : l.map f = l.map g) {a : α} (ha : a ∈ l) : f a = g a := by
  induction l with
  | nil => cases ha
  | cons b l ih =>
    simp only [List.map_cons, List.cons.injEq] at h
    rcases List.mem_cons.mp ha with rfl | ha
    · exact h.1
    · exact ih h.2 ha
theorem fn_mem {m : Md} {x : DD} (h : x ∈ m.defs) : GS.fn x ∈ m.ord := by
  obtain ⟨s, hs, e⟩ := List.mem_filterMap.mp h
  cases s <;> first | (cases e; exact hs) | cases e
theorem con_mem {m : Md} {p : Str × PV} (h : p ∈ m.cons) : GS.con p.1 p.2 ∈ m.ord := by
  obtain ⟨s, hs, e⟩ := List.mem_filterMap.mp h
  cases s <;> first | (cases e; exact hs) | cases e
theorem cls_mem {m : Md} {x : XD} (h : x ∈ m.xds) : GS.cls x ∈ m.ord := by
  obtain ⟨s, hs, e⟩ := List.mem_filterMap.mp h
  cases s <;> first | (cases e; exact hs) | cases e
/-- a def of the module, found -/
theorem Md.def_ {m : Md} {P : Program} {K : PySem.W.Frag} (ok : MdOk m) (c : m.says P K) {x : DD} (hx : x ∈ m.defs) (dk : DOk m x) : PySem.W.nsIn K mainGlobals x.d.at_.1 = some (some (.ref (He.fAd K x.d.at_))) ∧ x.d.ok K = true ∧ He.fnW K x.d.at_ = x.d.val := by
  obtain ⟨g, n, rfl, c⟩ := c
  obtain ⟨v, e, h⟩ := (Md.look ok c).1 _ (fn_mem hx)
  obtain ⟨rfl, h2, h3⟩ := defG_ok dk.at0 dk.dfl dk.kwd e h
  exact ⟨e, h2, h3⟩
/-- the module as the defs see it -/
theorem Md.mok {m : Md} {P : Program} {K : PySem.W.Frag} {mg : Str → Option Value} {h : Heap} (ok : MdOk m) (X : K.In h) (G : h.Ns mainGlobals mg) (c : m.says P K) (hall : ∀ x ∈ m.defs, DOk m x) (hib : ∀ x ∈ m.xds, InitBind x.fs ∧ ((∃ f, x.fs = [f]) ∨ ∃ f g, x.fs = [f, g])) :
    MOk P K mg m.mg (m.rc K) m.prog m.fuel := by
  have dk : ∀ x ∈ m.defs, _ := fun x hx => Md.def_ ok c hx (hall x hx)
  obtain ⟨g, n, hK, c⟩ := c
  obtain ⟨l1, l2, l3, c2⟩ := Md.look ok c
  unfold Md.exB at l3
  rw [Bool.and_eq_true] at l3
  obtain ⟨d4, d6⟩ := l3
  rw [← hK] at l1 l2 d4 d6 c2
  have xat : ∀ {i : Nat} {x : XD}, m.xds[i]? = some x → (m.rc K).ca i = He.ga K x.name ∧ (m.rc K).nm i = x.fs := fun {i x} e => by
    show ((m.xds[i]?).map _).getD 0 = _ ∧ ((m.xds[i]?).map _).getD [] = _
    rw [e]
    exact ⟨rfl, rfl⟩
  have dat : ∀ {i : Nat} {x : DD}, m.defs[i]? = some x → (m.rc K).fa i = He.fAd K x.d.at_ ∧ mg x.d.at_.1 = some (.ref (He.fAd K x.d.at_)) := fun {i x} e => by
    have hx := List.mem_of_getElem? e
    refine ⟨?_, PySem.W.mg_of X G (dk x hx).1⟩
    show ((m.defs[i]?).map _).getD 0 = _
    rw [e]
    rfl
  have nodun : dun ("super" : Str) = false := by decide +kernel
  refine ⟨rfl, rfl, fun p hp => ?_, fun i hi q hq => ?_, PySem.W.mg_none_of X G (l2 _ nodun ?_), fun x hx => ?_, fun p hp => ?_, fun p hp => ?_, fun p hp => ?_⟩
  · obtain ⟨q, hq, rfl⟩ := List.mem_map.mp hp
    have e := zip_mem hq
    obtain ⟨x1, x2⟩ := xat e
    have hx := List.mem_of_getElem? e
    obtain ⟨n1, t, xf⟩ := XD.exT (map_at c2 hx) (List.all_eq_true.mp d4 _ hx)
    obtain ⟨b1, b2⟩ := hib _ hx
    refine ⟨?_, x2, ?_⟩
    · show mg q.1.name = some (.ref ((m.rc K).ca q.2))
      rw [x1]
      exact PySem.W.mg_of X G n1
    · refine ⟨⟨q.1.fI K, ?_⟩, ?_, ?_, ?_, ?_⟩
      · show ExT K P ((m.rc K).ca q.2) _ ((m.rc K).nm q.2)
        rw [x1, x2]
        exact t
      · show InitBind ((m.rc K).nm q.2)
        rw [x2]
        exact b1
      · show (∃ f, (m.rc K).nm q.2 = [f]) ∨ ∃ f g, (m.rc K).nm q.2 = [f, g]
        rw [x2]
        exact b2
      · show XfC K ((m.rc K).ca q.2)
        rw [x1]
        exact xf
      · exact (List.getElem?_eq_some_iff.mp e).1
  · obtain ⟨p, hp, rfl⟩ := List.mem_map.mp hq
    have e := zip_mem hp
    have hi : i < m.xds.length := hi
    have e2 : m.xds[i]? = some m.xds[i] := List.getElem?_eq_getElem hi
    have z := List.all_eq_true.mp d6 (m.xds[i], i) (List.mem_iff_getElem?.mpr ⟨i, by rw [List.getElem?_zipIdx, e2]; simp⟩)
    have z2 := of_decide_eq_true (List.all_eq_true.mp z p hp)
    show PySem.W.exmOne K (.ref ((m.rc K).ca i)) (.ref ((m.rc K).ca p.2)) = some (decide (i = p.2))
    rw [(xat e2).1, (xat e).1]
    exact z2
  · have := ok.sup
    simpa using this
  · have z := List.all_eq_true.mp ok.blt x hx
    simp only [Bool.and_eq_true, Bool.not_eq_true'] at z
    exact PySem.W.mg_none_of X G (l2 x z.1 (by simpa using z.2))
  · obtain ⟨q, hq, rfl⟩ := List.mem_map.mp hp
    have e := zip_mem hq
    have hx := List.mem_of_getElem? e
    obtain ⟨u, hu, z⟩ := l1 _ (con_mem hx)
    obtain ⟨x, r, rv⟩ := valB_ok (C := m.rc K) hK z
    refine ⟨u, x, PySem.W.mg_of X G hu, r, fun M π H => ?_⟩
    have : m.prog.glos.getD q.2 .non = q.1.2 := by
      show (m.cons.map (·.2)).getD q.2 .non = _
      rw [List.getD_eq_getElem?_getD, List.getElem?_map, e]
      rfl
    rw [this]
    exact rv M π H
  · obtain ⟨q, hq, rfl⟩ := List.mem_map.mp hp
    obtain ⟨x1, x2⟩ := dat (zip_mem hq)
    rw [x1]
    exact x2
  · obtain ⟨q, hq, rfl⟩ := List.mem_map.mp hp
    have e := zip_mem hq
    have hx := List.mem_of_getElem? e
    have ok := hall q.1 hx
    obtain ⟨fd, F⟩ := He.DefD.funD (dk _ hx).2.2 (dk _ hx).2.1
    have F0 := F
    unfold He.DefD.dvs He.DefD.kws at F0
    rw [ok.dfl, ok.kwd] at F0
    obtain ⟨oc, od, dV, kV, doc, pm, an, cdv, ct, osl, rfl, lk, hcd, _, _⟩ := F.ex
    refine ⟨q.1.D, _, q.1.ps, ?_, ⟨⟨q.1.d.name, q.1.d.qual, q.1.d.params, q.1.d.body, q.1.d.scope, dV, kV, doc, pm, cdv, ct, oc, an, od, osl, q.1.N, rfl, ?_, hcd, ok.sc, ok.ck, ok.nl⟩, ok.pl, F0.bindsN ok.bd, ?_⟩⟩
    · show (m.defs.map (·.D))[q.2]? = _
      rw [List.getElem?_map, e]
      rfl
    · rw [(dat e).1]
      exact lk
    · rw [(dat e).1]
      exact F.kp
end OL
end
section
set_option Elab.async false
set_option linter.all false
set_option maxRecDepth 100000
set_option maxHeartbeats 4000000
/-! OL, part zb: a law by its module. -/
namespace OL
open PySem PySem.Spec PyProof.Rows L2
theorem Md.walk {l : PySem.W.OpenLaw} {m : Md} {n dep f N : Nat} {q : Program} {loose : List Str} {XP : (Str → Option Value) → Heap → Prop} {d : DefRec} {p : Str} {x : DD} (hn : l.most = some n) (hn2 : n ≤ sizeLine) (hdf : d.params.defaults = []) (hr : Room (dep + 21) callerA)
    (mok : MdOk m) (hall : ∀ x ∈ m.defs, DOk m x) (hib : ∀ x ∈ m.xds, InitBind x.fs ∧ ((∃ f, x.fs = [f]) ∨ ∃ f g, x.fs = [f, g])) (hf : m.defs[f]? = some x) (hx : x.d.at_.1 = d.name) (hps : x.ps = [p]) (hruns : Runs m.prog (dep + 1) f n) :
    PySem.W.WalkO q loose XP (m.hook l.prog N).says l.row.toRowW d [] (fun f vs => PySem.call f vs) := by
  refine walk_ol (k := dep + 21) (x := p) hn hn2 hdf hr fun w mg fa h Y G hfa => ?_
  obtain ⟨K, KX, c⟩ := Y
  have mo : ∀ {base : Heap}, K.In base → base.Ns mainGlobals mg → MOk l.prog K mg m.mg (m.rc K) m.prog m.fuel := fun {base} h1 h2 => Md.mok mok h1 h2 c hall hib
  have mo0 := mo KX G
  have hm : (x.d.at_.1, f) ∈ m.mg.fns := List.mem_map.mpr ⟨(x, f), List.mem_iff_getElem?.mpr ⟨f, by rw [List.getElem?_zipIdx, hf]; simp⟩, rfl⟩
  obtain ⟨D, fd, ps, hD, t⟩ := mo0.txt _ hm
  have hfa2 : fa = (m.rc K).fa f := by
    have z := mo0.fns _ hm
    have z2 : mg x.d.at_.1 = some (.ref ((m.rc K).fa f)) := z
    rw [hx, hfa] at z2
    injection z2 with z3
    injection z3
  have hD' : m.prog.funs[f]? = some x.D := by
    show (m.defs.map (·.D))[f]? = _
    rw [List.getElem?_map, hf]
    rfl
  have xm : x ∈ m.defs := List.mem_of_getElem? hf
  have ok := hall x xm
  have dk := Md.def_ mok c xm ok
  obtain ⟨fd2, F⟩ := He.DefD.funD dk.2.2 dk.2.1
  unfold He.DefD.dvs He.DefD.kws at F
  rw [ok.dfl, ok.kwd] at F
  have F0 := F
  obtain ⟨oc, od, dV, kV, doc, pm, an, cdv, ct, osl, rfl, lk, hcd, _, _⟩ := F.ex
  have hfaK : (m.rc K).fa f = He.fAd K x.d.at_ := by
    show ((m.defs[f]?).map _).getD 0 = _
    rw [hf]
    rfl
  have T : FnT K m.mg (m.rc K) m.fuel f x.D _ x.ps := ⟨⟨x.d.name, x.d.qual, x.d.params, x.d.body, x.d.scope, dV, kV, doc, pm, cdv, ct, oc, an, od, osl, x.N, rfl, by rw [hfaK]; exact lk, hcd, ok.sc, ok.ck, ok.nl⟩, ok.pl, F0.bindsN ok.bd, by rw [hfaK]; exact F0.kp⟩
  refine ⟨K, PySem.W.fnOf x.d.name x.d.qual x.d.params x.d.body x.d.scope dV kV doc pm an cdv ct, spF (m.rc K) (cfN m.prog (dep + 1)) f, KX, fun s v => ?_, fun H a ns hl hS => runs_sp hruns H a ns hl hS, fun base h1 h2 => ?_⟩
  · have b := F0.bindsA ok.bd s [v] (by rw [hps]; rfl)
    rw [hps] at b
    exact b
  · have z := fn_step (Pg := l.prog) (w := w) (base := base) (mo h1 h2) dep (fn_all (mo h1 h2) dep) hD' T
    rw [hps] at z
    rw [hfa2]
    exact z
end OL
end
section
set_option Elab.async false
set_option linter.all false
set_option maxRecDepth 100000
set_option maxHeartbeats 0
namespace M76
open PySem OL
def defs0 : List (DD) := [x0, x1, x2, x3, x4, x5, x6, x7, x8, x9, x10, x11, x12, x13, x14, x15, x16, x17, x18, x19, x20, x21, x22, x23, x24, x25, x26, x27, x28, x29]
def defs1 : List (DD) := [x30, x31, x32, x33, x34, x35, x36, x37, x38, x39, x40, x41, x42, x43, x44, x45, x46, x47, x48, x49, x50, x51, x52, x53, x54, x55, x56, x57, x58, x59]
def defs2 : List (DD) := [x60, x61, x62, x63, x64, x65, x66, x67, x68, x69, x70, x71, x72, x73, x74, x75, x76, x77, x78, x79, x80, x81, x82, x83, x84, x85, x86, x87, x88, x89]
def defs3 : List (DD) := [x90, x91, x92, x93, x94, x95, x96, x97, x98, x99, x100, x101, x102, x103, x104, x105, x106, x107, x108, x109, x110, x111, x112, x113, x114, x115, x116, x117, x118, x119]
def defs4 : List (DD) := [x120, x121, x122, x123, x124]
def defs : List (DD) := defs0 ++ defs1 ++ defs2 ++ defs3 ++ defs4
def xds0 : List (XD) := [⟨"BadOctets", ["place"], tp 2⟩, ⟨"BadNumber", ["value"], tp 3⟩, ⟨"BadRanges", ["place"], tp 4⟩, ⟨"BadPiece", ["word"], tp 5⟩, ⟨"BadOutbox", ["word"], tp 6⟩, ⟨"BadInbox", ["word"], tp 7⟩, ⟨"Finished", ["stream"], tp 8⟩, ⟨"BadLife", ["value"], tp 9⟩, ⟨"BadSide", ["value"], tp 10⟩, ⟨"BadRule", ["value"], tp 11⟩, ⟨"BadBound", ["value"], tp 12⟩, ⟨"TooGreat", ["most"], tp 13⟩]
def xds : List (XD) := xds0
theorem defs_eq : md.defs = defs := by kernel_rfl
theorem xds_eq : md.xds = xds := by kernel_rfl
def fns0 : List (Str × Nat) := [("is_whole", 0), ("is_within", 1), ("need_number", 2), ("are_octets", 3), ("is_piece", 4), ("need_piece", 5), ("inbox_new", 6), ("is_block", 7), ("has_form", 8), ("has_form_inboxes", 9), ("block_stop", 10), ("held_stop", 11), ("inbox_fault", 12), ("need_inbox", 13), ("is_unlike", 14), ("piece_fault", 15), ("put_together", 16), ("in_put", 17), ("in_put_at", 18), ("in_readable", 19), ("in_readable_at", 20), ("in_have", 21), ("in_have_at", 22), ("in_read", 23), ("in_read_at", 24), ("in_limit_at", 25), ("in_grant", 26), ("in_grant_at", 27), ("need_side", 28), ("is_kind", 29)]
def fns1 : List (Str × Nat) := [("is_life", 30), ("need_life", 31), ("link_begun", 32), ("takes_from", 33), ("is_range", 34), ("need_ranges", 35), ("is_ranges", 36), ("bounded", 37), ("one_range", 38), ("merged", 39), ("has", 40), ("joined", 41), ("common_rows", 42), ("met", 43), ("hole_rows", 44), ("less", 45), ("holes", 46), ("first_hole", 47), ("outbox_new", 48), ("has_form_outboxes", 49), ("length_of", 50), ("lie_within", 51), ("outbox_fault", 52), ("need_outbox", 53), ("out_put", 54), ("wrong_place", 55), ("out_finish", 56), ("new_stop", 57), ("next_places", 58), ("out_take", 59)]
def fns2 : List (Str × Nat) := [("out_take_at", 60), ("settled", 61), ("need_places", 62), ("out_acked_at", 63), ("out_had", 64), ("out_had_at", 65), ("out_lost", 66), ("out_lost_at", 67), ("out_roomed", 68), ("out_roomed_at", 69), ("out_under", 70), ("had_until", 71), ("need_bound", 72), ("has_life_left", 73), ("put_in", 74), ("heard_without", 75), ("sure_behind", 76), ("next_link", 77), ("link_fault_of", 78), ("full_outbox", 79), ("first_stream_world", 80), ("letters_for", 81), ("changed", 82), ("with_new_life", 83), ("may_send", 84), ("hearing_stream_deeds", 85), ("stream_deeds", 86), ("taken_world", 87), ("roomed_world", 88), ("with_letter", 89)]
def fns3 : List (Str × Nat) := [("heard_world", 90), ("lost_world", 91), ("stream_behind", 92), ("sent_pairs", 93), ("is_agreeing", 94), ("stream_fault", 95), ("need_case", 96), ("need_rule", 97), ("is_breaking", 98), ("_law_mixed", 99), ("_law_folded", 100), ("_law_draw", 101), ("_law_begun", 102), ("_law_like", 103), ("_law_of", 104), ("_law_small_put", 105), ("_law_small_heard", 106), ("_law_small_left", 107), ("_law_small_note", 108), ("_law_small_with", 109), ("_law_links_broken", 110), ("_law_stream_first", 111), ("_law_stream_take", 112), ("_law_stream_have", 113), ("_law_stream_under", 114), ("_law_stream_taken", 115), ("_law_stream_roomed", 116), ("_law_stream_fed", 117), ("_law_stream_new", 118), ("_law_stream_heard", 119)]
def fns4 : List (Str × Nat) := [("_law_stream_sending", 120), ("_law_stream_deeds", 121), ("_law_stream_broken", 122), ("_law_script", 123), ("law", 124)]
def fns : List (Str × Nat) := fns0 ++ fns1 ++ fns2 ++ fns3 ++ fns4
def cns0 : List (Str × Nat) := [("MOST_NUMBER", 0), ("MOST_KEPT", 1), ("MOST_LENGTH_pieces", 2), ("MOST_LIFE", 3), ("MOST_RANGES", 4), ("MOST_LIVES_smalllinks", 5), ("MOST_LENGTH_smallstreams", 6), ("MOST_ROOM", 7), ("MOST_LIVES_smallstreams", 8), ("RULES", 9), ("MOST_SENTENCE", 10)]
def cns : List (Str × Nat) := cns0
def exs0 : List (Str × Nat × List Str) := [("BadOctets", 0, ["place"]), ("BadNumber", 1, ["value"]), ("BadRanges", 2, ["place"]), ("BadPiece", 3, ["word"]), ("BadOutbox", 4, ["word"]), ("BadInbox", 5, ["word"]), ("Finished", 6, ["stream"]), ("BadLife", 7, ["value"]), ("BadSide", 8, ["value"]), ("BadRule", 9, ["value"]), ("BadBound", 10, ["value"]), ("TooGreat", 11, ["most"])]
def exs : List (Str × Nat × List Str) := exs0
def mg : MG := ⟨fns, cns, blts, exs⟩
theorem mg_eq : md.mg = mg := by kernel_rfl
theorem ok0 : DOk md x0 := ⟨rfl, rfl, rfl, C8.fnScope_by (by kernel_rfl), by rw [mg_eq]; kernel_rfl, rfl, rfl, fun _ _ _ _ _ _ us hl => match us, hl with | [_], _ => rfl⟩
theorem ok1 : DOk md x1 := ⟨rfl, rfl, rfl, C8.fnScope_by (by kernel_rfl), by rw [mg_eq]; kernel_rfl, rfl, rfl, fun _ _ _ _ _ _ us hl => match us, hl with | [_, _, _], _ => rfl⟩
theorem ok2 : DOk md x2 := ⟨rfl, rfl, rfl, C8.fnScope_by (by kernel_rfl), by rw [mg_eq]; kernel_rfl, rfl, rfl, fun _ _ _ _ _ _ us hl => match us, hl with | [_, _, _], _ => rfl⟩
theorem ok3 : DOk md x3 := ⟨rfl, rfl, rfl, C8.fnScope_by (by kernel_rfl), by rw [mg_eq]; kernel_rfl, rfl, rfl, fun _ _ _ _ _ _ us hl => match us, hl with | [_, _], _ => rfl⟩
theorem ok4 : DOk md x4 := ⟨rfl, rfl, rfl, C8.fnScope_by (by kernel_rfl), by rw [mg_eq]; kernel_rfl, rfl, rfl, fun _ _ _ _ _ _ us hl => match us, hl with | [_], _ => rfl⟩
theorem ok5 : DOk md x5 := ⟨rfl, rfl, rfl, C8.fnScope_by (by kernel_rfl), by rw [mg_eq]; kernel_rfl, rfl, rfl, fun _ _ _ _ _ _ us hl => match us, hl with | [_], _ => rfl⟩
theorem ok6 : DOk md x6 := ⟨rfl, rfl, rfl, C8.fnScope_by (by kernel_rfl), by rw [mg_eq]; kernel_rfl, rfl, rfl, fun _ _ _ _ _ _ us hl => match us, hl with | [_], _ => rfl⟩
theorem ok7 : DOk md x7 := ⟨rfl, rfl, rfl, C8.fnScope_by (by kernel_rfl), by rw [mg_eq]; kernel_rfl, rfl, rfl, fun _ _ _ _ _ _ us hl => match us, hl with | [_], _ => rfl⟩
theorem ok8 : DOk md x8 := ⟨rfl, rfl, rfl, C8.fnScope_by (by kernel_rfl), by rw [mg_eq]; kernel_rfl, rfl, rfl, fun _ _ _ _ _ _ us hl => match us, hl with | [_], _ => rfl⟩
theorem ok9 : DOk md x9 := ⟨rfl, rfl, rfl, C8.fnScope_by (by kernel_rfl), by rw [mg_eq]; kernel_rfl, rfl, rfl, fun _ _ _ _ _ _ us hl => match us, hl with | [_], _ => rfl⟩
theorem ok10 : DOk md x10 := ⟨rfl, rfl, rfl, C8.fnScope_by (by kernel_rfl), by rw [mg_eq]; kernel_rfl, rfl, rfl, fun _ _ _ _ _ _ us hl => match us, hl with | [_], _ => rfl⟩
theorem ok11 : DOk md x11 := ⟨rfl, rfl, rfl, C8.fnScope_by (by kernel_rfl), by rw [mg_eq]; kernel_rfl, rfl, rfl, fun _ _ _ _ _ _ us hl => match us, hl with | [_], _ => rfl⟩
theorem ok12 : DOk md x12 := ⟨rfl, rfl, rfl, C8.fnScope_by (by kernel_rfl), by rw [mg_eq]; kernel_rfl, rfl, rfl, fun _ _ _ _ _ _ us hl => match us, hl with | [_], _ => rfl⟩
theorem ok13 : DOk md x13 := ⟨rfl, rfl, rfl, C8.fnScope_by (by kernel_rfl), by rw [mg_eq]; kernel_rfl, rfl, rfl, fun _ _ _ _ _ _ us hl => match us, hl with | [_], _ => rfl⟩
theorem ok14 : DOk md x14 := ⟨rfl, rfl, rfl, C8.fnScope_by (by kernel_rfl), by rw [mg_eq]; kernel_rfl, rfl, rfl, fun _ _ _ _ _ _ us hl => match us, hl with | [_, _, _], _ => rfl⟩
theorem ok15 : DOk md x15 := ⟨rfl, rfl, rfl, C8.fnScope_by (by kernel_rfl), by rw [mg_eq]; kernel_rfl, rfl, rfl, fun _ _ _ _ _ _ us hl => match us, hl with | [_, _], _ => rfl⟩
theorem ok16 : DOk md x16 := ⟨rfl, rfl, rfl, C8.fnScope_by (by kernel_rfl), by rw [mg_eq]; kernel_rfl, rfl, rfl, fun _ _ _ _ _ _ us hl => match us, hl with | [_], _ => rfl⟩
theorem ok17 : DOk md x17 := ⟨rfl, rfl, rfl, C8.fnScope_by (by kernel_rfl), by rw [mg_eq]; kernel_rfl, rfl, rfl, fun _ _ _ _ _ _ us hl => match us, hl with | [_, _], _ => rfl⟩
theorem ok18 : DOk md x18 := ⟨rfl, rfl, rfl, C8.fnScope_by (by kernel_rfl), by rw [mg_eq]; kernel_rfl, rfl, rfl, fun _ _ _ _ _ _ us hl => match us, hl with | [_, _], _ => rfl⟩
theorem ok19 : DOk md x19 := ⟨rfl, rfl, rfl, C8.fnScope_by (by kernel_rfl), by rw [mg_eq]; kernel_rfl, rfl, rfl, fun _ _ _ _ _ _ us hl => match us, hl with | [_], _ => rfl⟩
theorem ok20 : DOk md x20 := ⟨rfl, rfl, rfl, C8.fnScope_by (by kernel_rfl), by rw [mg_eq]; kernel_rfl, rfl, rfl, fun _ _ _ _ _ _ us hl => match us, hl with | [_], _ => rfl⟩
theorem ok21 : DOk md x21 := ⟨rfl, rfl, rfl, C8.fnScope_by (by kernel_rfl), by rw [mg_eq]; kernel_rfl, rfl, rfl, fun _ _ _ _ _ _ us hl => match us, hl with | [_], _ => rfl⟩
theorem ok22 : DOk md x22 := ⟨rfl, rfl, rfl, C8.fnScope_by (by kernel_rfl), by rw [mg_eq]; kernel_rfl, rfl, rfl, fun _ _ _ _ _ _ us hl => match us, hl with | [_], _ => rfl⟩
theorem ok23 : DOk md x23 := ⟨rfl, rfl, rfl, C8.fnScope_by (by kernel_rfl), by rw [mg_eq]; kernel_rfl, rfl, rfl, fun _ _ _ _ _ _ us hl => match us, hl with | [_, _], _ => rfl⟩
theorem ok24 : DOk md x24 := ⟨rfl, rfl, rfl, C8.fnScope_by (by kernel_rfl), by rw [mg_eq]; kernel_rfl, rfl, rfl, fun _ _ _ _ _ _ us hl => match us, hl with | [_, _], _ => rfl⟩
theorem ok25 : DOk md x25 := ⟨rfl, rfl, rfl, C8.fnScope_by (by kernel_rfl), by rw [mg_eq]; kernel_rfl, rfl, rfl, fun _ _ _ _ _ _ us hl => match us, hl with | [_], _ => rfl⟩
theorem ok26 : DOk md x26 := ⟨rfl, rfl, rfl, C8.fnScope_by (by kernel_rfl), by rw [mg_eq]; kernel_rfl, rfl, rfl, fun _ _ _ _ _ _ us hl => match us, hl with | [_], _ => rfl⟩
theorem ok27 : DOk md x27 := ⟨rfl, rfl, rfl, C8.fnScope_by (by kernel_rfl), by rw [mg_eq]; kernel_rfl, rfl, rfl, fun _ _ _ _ _ _ us hl => match us, hl with | [_], _ => rfl⟩
theorem ok28 : DOk md x28 := ⟨rfl, rfl, rfl, C8.fnScope_by (by kernel_rfl), by rw [mg_eq]; kernel_rfl, rfl, rfl, fun _ _ _ _ _ _ us hl => match us, hl with | [_], _ => rfl⟩
theorem ok29 : DOk md x29 := ⟨rfl, rfl, rfl, C8.fnScope_by (by kernel_rfl), by rw [mg_eq]; kernel_rfl, rfl, rfl, fun _ _ _ _ _ _ us hl => match us, hl with | [_, _], _ => rfl⟩
theorem ok30 : DOk md x30 := ⟨rfl, rfl, rfl, C8.fnScope_by (by kernel_rfl), by rw [mg_eq]; kernel_rfl, rfl, rfl, fun _ _ _ _ _ _ us hl => match us, hl with | [_, _], _ => rfl⟩
theorem ok31 : DOk md x31 := ⟨rfl, rfl, rfl, C8.fnScope_by (by kernel_rfl), by rw [mg_eq]; kernel_rfl, rfl, rfl, fun _ _ _ _ _ _ us hl => match us, hl with | [_, _], _ => rfl⟩
theorem ok32 : DOk md x32 := ⟨rfl, rfl, rfl, C8.fnScope_by (by kernel_rfl), by rw [mg_eq]; kernel_rfl, rfl, rfl, fun _ _ _ _ _ _ us hl => match us, hl with | [_, _], _ => rfl⟩
theorem ok33 : DOk md x33 := ⟨rfl, rfl, rfl, C8.fnScope_by (by kernel_rfl), by rw [mg_eq]; kernel_rfl, rfl, rfl, fun _ _ _ _ _ _ us hl => match us, hl with | [_, _, _], _ => rfl⟩
theorem ok34 : DOk md x34 := ⟨rfl, rfl, rfl, C8.fnScope_by (by kernel_rfl), by rw [mg_eq]; kernel_rfl, rfl, rfl, fun _ _ _ _ _ _ us hl => match us, hl with | [_], _ => rfl⟩
theorem ok35 : DOk md x35 := ⟨rfl, rfl, rfl, C8.fnScope_by (by kernel_rfl), by rw [mg_eq]; kernel_rfl, rfl, rfl, fun _ _ _ _ _ _ us hl => match us, hl with | [_], _ => rfl⟩
theorem ok36 : DOk md x36 := ⟨rfl, rfl, rfl, C8.fnScope_by (by kernel_rfl), by rw [mg_eq]; kernel_rfl, rfl, rfl, fun _ _ _ _ _ _ us hl => match us, hl with | [_], _ => rfl⟩
theorem ok37 : DOk md x37 := ⟨rfl, rfl, rfl, C8.fnScope_by (by kernel_rfl), by rw [mg_eq]; kernel_rfl, rfl, rfl, fun _ _ _ _ _ _ us hl => match us, hl with | [_], _ => rfl⟩
theorem ok38 : DOk md x38 := ⟨rfl, rfl, rfl, C8.fnScope_by (by kernel_rfl), by rw [mg_eq]; kernel_rfl, rfl, rfl, fun _ _ _ _ _ _ us hl => match us, hl with | [_, _], _ => rfl⟩
theorem ok39 : DOk md x39 := ⟨rfl, rfl, rfl, C8.fnScope_by (by kernel_rfl), by rw [mg_eq]; kernel_rfl, rfl, rfl, fun _ _ _ _ _ _ us hl => match us, hl with | [_], _ => rfl⟩
theorem ok40 : DOk md x40 := ⟨rfl, rfl, rfl, C8.fnScope_by (by kernel_rfl), by rw [mg_eq]; kernel_rfl, rfl, rfl, fun _ _ _ _ _ _ us hl => match us, hl with | [_, _], _ => rfl⟩
theorem ok41 : DOk md x41 := ⟨rfl, rfl, rfl, C8.fnScope_by (by kernel_rfl), by rw [mg_eq]; kernel_rfl, rfl, rfl, fun _ _ _ _ _ _ us hl => match us, hl with | [_, _], _ => rfl⟩
theorem ok42 : DOk md x42 := ⟨rfl, rfl, rfl, C8.fnScope_by (by kernel_rfl), by rw [mg_eq]; kernel_rfl, rfl, rfl, fun _ _ _ _ _ _ us hl => match us, hl with | [_, _], _ => rfl⟩
theorem ok43 : DOk md x43 := ⟨rfl, rfl, rfl, C8.fnScope_by (by kernel_rfl), by rw [mg_eq]; kernel_rfl, rfl, rfl, fun _ _ _ _ _ _ us hl => match us, hl with | [_, _], _ => rfl⟩
theorem ok44 : DOk md x44 := ⟨rfl, rfl, rfl, C8.fnScope_by (by kernel_rfl), by rw [mg_eq]; kernel_rfl, rfl, rfl, fun _ _ _ _ _ _ us hl => match us, hl with | [_, _, _], _ => rfl⟩
theorem ok45 : DOk md x45 := ⟨rfl, rfl, rfl, C8.fnScope_by (by kernel_rfl), by rw [mg_eq]; kernel_rfl, rfl, rfl, fun _ _ _ _ _ _ us hl => match us, hl with | [_, _], _ => rfl⟩
theorem ok46 : DOk md x46 := ⟨rfl, rfl, rfl, C8.fnScope_by (by kernel_rfl), by rw [mg_eq]; kernel_rfl, rfl, rfl, fun _ _ _ _ _ _ us hl => match us, hl with | [_, _, _], _ => rfl⟩
theorem ok47 : DOk md x47 := ⟨rfl, rfl, rfl, C8.fnScope_by (by kernel_rfl), by rw [mg_eq]; kernel_rfl, rfl, rfl, fun _ _ _ _ _ _ us hl => match us, hl with | [_, _], _ => rfl⟩
theorem ok48 : DOk md x48 := ⟨rfl, rfl, rfl, C8.fnScope_by (by kernel_rfl), by rw [mg_eq]; kernel_rfl, rfl, rfl, fun _ _ _ _ _ _ us hl => match us, hl with | [_], _ => rfl⟩
theorem ok49 : DOk md x49 := ⟨rfl, rfl, rfl, C8.fnScope_by (by kernel_rfl), by rw [mg_eq]; kernel_rfl, rfl, rfl, fun _ _ _ _ _ _ us hl => match us, hl with | [_], _ => rfl⟩
theorem ok50 : DOk md x50 := ⟨rfl, rfl, rfl, C8.fnScope_by (by kernel_rfl), by rw [mg_eq]; kernel_rfl, rfl, rfl, fun _ _ _ _ _ _ us hl => match us, hl with | [_], _ => rfl⟩
theorem ok51 : DOk md x51 := ⟨rfl, rfl, rfl, C8.fnScope_by (by kernel_rfl), by rw [mg_eq]; kernel_rfl, rfl, rfl, fun _ _ _ _ _ _ us hl => match us, hl with | [_, _, _], _ => rfl⟩
theorem ok52 : DOk md x52 := ⟨rfl, rfl, rfl, C8.fnScope_by (by kernel_rfl), by rw [mg_eq]; kernel_rfl, rfl, rfl, fun _ _ _ _ _ _ us hl => match us, hl with | [_], _ => rfl⟩
theorem ok53 : DOk md x53 := ⟨rfl, rfl, rfl, C8.fnScope_by (by kernel_rfl), by rw [mg_eq]; kernel_rfl, rfl, rfl, fun _ _ _ _ _ _ us hl => match us, hl with | [_], _ => rfl⟩
theorem ok54 : DOk md x54 := ⟨rfl, rfl, rfl, C8.fnScope_by (by kernel_rfl), by rw [mg_eq]; kernel_rfl, rfl, rfl, fun _ _ _ _ _ _ us hl => match us, hl with | [_, _], _ => rfl⟩
theorem ok55 : DOk md x55 := ⟨rfl, rfl, rfl, C8.fnScope_by (by kernel_rfl), by rw [mg_eq]; kernel_rfl, rfl, rfl, fun _ _ _ _ _ _ us hl => match us, hl with | [_], _ => rfl⟩
theorem ok56 : DOk md x56 := ⟨rfl, rfl, rfl, C8.fnScope_by (by kernel_rfl), by rw [mg_eq]; kernel_rfl, rfl, rfl, fun _ _ _ _ _ _ us hl => match us, hl with | [_], _ => rfl⟩
theorem ok57 : DOk md x57 := ⟨rfl, rfl, rfl, C8.fnScope_by (by kernel_rfl), by rw [mg_eq]; kernel_rfl, rfl, rfl, fun _ _ _ _ _ _ us hl => match us, hl with | [_, _], _ => rfl⟩
theorem ok58 : DOk md x58 := ⟨rfl, rfl, rfl, C8.fnScope_by (by kernel_rfl), by rw [mg_eq]; kernel_rfl, rfl, rfl, fun _ _ _ _ _ _ us hl => match us, hl with | [_, _], _ => rfl⟩
theorem ok59 : DOk md x59 := ⟨rfl, rfl, rfl, C8.fnScope_by (by kernel_rfl), by rw [mg_eq]; kernel_rfl, rfl, rfl, fun _ _ _ _ _ _ us hl => match us, hl with | [_, _], _ => rfl⟩
theorem ok60 : DOk md x60 := ⟨rfl, rfl, rfl, C8.fnScope_by (by kernel_rfl), by rw [mg_eq]; kernel_rfl, rfl, rfl, fun _ _ _ _ _ _ us hl => match us, hl with | [_, _], _ => rfl⟩
theorem ok61 : DOk md x61 := ⟨rfl, rfl, rfl, C8.fnScope_by (by kernel_rfl), by rw [mg_eq]; kernel_rfl, rfl, rfl, fun _ _ _ _ _ _ us hl => match us, hl with | [_], _ => rfl⟩
theorem ok62 : DOk md x62 := ⟨rfl, rfl, rfl, C8.fnScope_by (by kernel_rfl), by rw [mg_eq]; kernel_rfl, rfl, rfl, fun _ _ _ _ _ _ us hl => match us, hl with | [_, _, _], _ => rfl⟩
theorem ok63 : DOk md x63 := ⟨rfl, rfl, rfl, C8.fnScope_by (by kernel_rfl), by rw [mg_eq]; kernel_rfl, rfl, rfl, fun _ _ _ _ _ _ us hl => match us, hl with | [_, _, _], _ => rfl⟩
theorem ok64 : DOk md x64 := ⟨rfl, rfl, rfl, C8.fnScope_by (by kernel_rfl), by rw [mg_eq]; kernel_rfl, rfl, rfl, fun _ _ _ _ _ _ us hl => match us, hl with | [_, _], _ => rfl⟩
theorem ok65 : DOk md x65 := ⟨rfl, rfl, rfl, C8.fnScope_by (by kernel_rfl), by rw [mg_eq]; kernel_rfl, rfl, rfl, fun _ _ _ _ _ _ us hl => match us, hl with | [_, _], _ => rfl⟩
theorem ok66 : DOk md x66 := ⟨rfl, rfl, rfl, C8.fnScope_by (by kernel_rfl), by rw [mg_eq]; kernel_rfl, rfl, rfl, fun _ _ _ _ _ _ us hl => match us, hl with | [_, _, _], _ => rfl⟩
theorem ok67 : DOk md x67 := ⟨rfl, rfl, rfl, C8.fnScope_by (by kernel_rfl), by rw [mg_eq]; kernel_rfl, rfl, rfl, fun _ _ _ _ _ _ us hl => match us, hl with | [_, _, _], _ => rfl⟩
theorem ok68 : DOk md x68 := ⟨rfl, rfl, rfl, C8.fnScope_by (by kernel_rfl), by rw [mg_eq]; kernel_rfl, rfl, rfl, fun _ _ _ _ _ _ us hl => match us, hl with | [_, _], _ => rfl⟩
theorem ok69 : DOk md x69 := ⟨rfl, rfl, rfl, C8.fnScope_by (by kernel_rfl), by rw [mg_eq]; kernel_rfl, rfl, rfl, fun _ _ _ _ _ _ us hl => match us, hl with | [_, _], _ => rfl⟩
theorem ok70 : DOk md x70 := ⟨rfl, rfl, rfl, C8.fnScope_by (by kernel_rfl), by rw [mg_eq]; kernel_rfl, rfl, rfl, fun _ _ _ _ _ _ us hl => match us, hl with | [_], _ => rfl⟩
theorem ok71 : DOk md x71 := ⟨rfl, rfl, rfl, C8.fnScope_by (by kernel_rfl), by rw [mg_eq]; kernel_rfl, rfl, rfl, fun _ _ _ _ _ _ us hl => match us, hl with | [_, _], _ => rfl⟩
theorem ok72 : DOk md x72 := ⟨rfl, rfl, rfl, C8.fnScope_by (by kernel_rfl), by rw [mg_eq]; kernel_rfl, rfl, rfl, fun _ _ _ _ _ _ us hl => match us, hl with | [_], _ => rfl⟩
theorem ok73 : DOk md x73 := ⟨rfl, rfl, rfl, C8.fnScope_by (by kernel_rfl), by rw [mg_eq]; kernel_rfl, rfl, rfl, fun _ _ _ _ _ _ us hl => match us, hl with | [_, _], _ => rfl⟩
theorem ok74 : DOk md x74 := ⟨rfl, rfl, rfl, C8.fnScope_by (by kernel_rfl), by rw [mg_eq]; kernel_rfl, rfl, rfl, fun _ _ _ _ _ _ us hl => match us, hl with | [_, _], _ => rfl⟩
theorem ok75 : DOk md x75 := ⟨rfl, rfl, rfl, C8.fnScope_by (by kernel_rfl), by rw [mg_eq]; kernel_rfl, rfl, rfl, fun _ _ _ _ _ _ us hl => match us, hl with | [_, _, _, _], _ => rfl⟩
theorem ok76 : DOk md x76 := ⟨rfl, rfl, rfl, C8.fnScope_by (by kernel_rfl), by rw [mg_eq]; kernel_rfl, rfl, rfl, fun _ _ _ _ _ _ us hl => match us, hl with | [_, _], _ => rfl⟩
theorem ok77 : DOk md x77 := ⟨rfl, rfl, rfl, C8.fnScope_by (by kernel_rfl), by rw [mg_eq]; kernel_rfl, rfl, rfl, fun _ _ _ _ _ _ us hl => match us, hl with | [_, _, _], _ => rfl⟩
theorem ok78 : DOk md x78 := ⟨rfl, rfl, rfl, C8.fnScope_by (by kernel_rfl), by rw [mg_eq]; kernel_rfl, rfl, rfl, fun _ _ _ _ _ _ us hl => match us, hl with | [_, _, _], _ => rfl⟩
theorem ok79 : DOk md x79 := ⟨rfl, rfl, rfl, C8.fnScope_by (by kernel_rfl), by rw [mg_eq]; kernel_rfl, rfl, rfl, fun _ _ _ _ _ _ us hl => match us, hl with | [_, _], _ => rfl⟩
theorem ok80 : DOk md x80 := ⟨rfl, rfl, rfl, C8.fnScope_by (by kernel_rfl), by rw [mg_eq]; kernel_rfl, rfl, rfl, fun _ _ _ _ _ _ us hl => match us, hl with | [_, _, _], _ => rfl⟩
theorem ok81 : DOk md x81 := ⟨rfl, rfl, rfl, C8.fnScope_by (by kernel_rfl), by rw [mg_eq]; kernel_rfl, rfl, rfl, fun _ _ _ _ _ _ us hl => match us, hl with | [_, _], _ => rfl⟩
theorem ok82 : DOk md x82 := ⟨rfl, rfl, rfl, C8.fnScope_by (by kernel_rfl), by rw [mg_eq]; kernel_rfl, rfl, rfl, fun _ _ _ _ _ _ us hl => match us, hl with | [_, _], _ => rfl⟩
theorem ok83 : DOk md x83 := ⟨rfl, rfl, rfl, C8.fnScope_by (by kernel_rfl), by rw [mg_eq]; kernel_rfl, rfl, rfl, fun _ _ _ _ _ _ us hl => match us, hl with | [_, _, _, _], _ => rfl⟩
theorem ok84 : DOk md x84 := ⟨rfl, rfl, rfl, C8.fnScope_by (by kernel_rfl), by rw [mg_eq]; kernel_rfl, rfl, rfl, fun _ _ _ _ _ _ us hl => match us, hl with | [_, _], _ => rfl⟩
theorem ok85 : DOk md x85 := ⟨rfl, rfl, rfl, C8.fnScope_by (by kernel_rfl), by rw [mg_eq]; kernel_rfl, rfl, rfl, fun _ _ _ _ _ _ us hl => match us, hl with | [_, _, _, _], _ => rfl⟩
theorem ok86 : DOk md x86 := ⟨rfl, rfl, rfl, C8.fnScope_by (by kernel_rfl), by rw [mg_eq]; kernel_rfl, rfl, rfl, fun _ _ _ _ _ _ us hl => match us, hl with | [_, _, _], _ => rfl⟩
theorem ok87 : DOk md x87 := ⟨rfl, rfl, rfl, C8.fnScope_by (by kernel_rfl), by rw [mg_eq]; kernel_rfl, rfl, rfl, fun _ _ _ _ _ _ us hl => match us, hl with | [_, _], _ => rfl⟩
theorem ok88 : DOk md x88 := ⟨rfl, rfl, rfl, C8.fnScope_by (by kernel_rfl), by rw [mg_eq]; kernel_rfl, rfl, rfl, fun _ _ _ _ _ _ us hl => match us, hl with | [_, _], _ => rfl⟩
theorem ok89 : DOk md x89 := ⟨rfl, rfl, rfl, C8.fnScope_by (by kernel_rfl), by rw [mg_eq]; kernel_rfl, rfl, rfl, fun _ _ _ _ _ _ us hl => match us, hl with | [_, _, _], _ => rfl⟩
theorem ok90 : DOk md x90 := ⟨rfl, rfl, rfl, C8.fnScope_by (by kernel_rfl), by rw [mg_eq]; kernel_rfl, rfl, rfl, fun _ _ _ _ _ _ us hl => match us, hl with | [_, _, _, _], _ => rfl⟩
theorem ok91 : DOk md x91 := ⟨rfl, rfl, rfl, C8.fnScope_by (by kernel_rfl), by rw [mg_eq]; kernel_rfl, rfl, rfl, fun _ _ _ _ _ _ us hl => match us, hl with | [_], _ => rfl⟩
theorem ok92 : DOk md x92 := ⟨rfl, rfl, rfl, C8.fnScope_by (by kernel_rfl), by rw [mg_eq]; kernel_rfl, rfl, rfl, fun _ _ _ _ _ _ us hl => match us, hl with | [_, _, _], _ => rfl⟩
theorem ok93 : DOk md x93 := ⟨rfl, rfl, rfl, C8.fnScope_by (by kernel_rfl), by rw [mg_eq]; kernel_rfl, rfl, rfl, fun _ _ _ _ _ _ us hl => match us, hl with | [_], _ => rfl⟩
theorem ok94 : DOk md x94 := ⟨rfl, rfl, rfl, C8.fnScope_by (by kernel_rfl), by rw [mg_eq]; kernel_rfl, rfl, rfl, fun _ _ _ _ _ _ us hl => match us, hl with | [_, _], _ => rfl⟩
theorem ok95 : DOk md x95 := ⟨rfl, rfl, rfl, C8.fnScope_by (by kernel_rfl), by rw [mg_eq]; kernel_rfl, rfl, rfl, fun _ _ _ _ _ _ us hl => match us, hl with | [_, _], _ => rfl⟩
theorem ok96 : DOk md x96 := ⟨rfl, rfl, rfl, C8.fnScope_by (by kernel_rfl), by rw [mg_eq]; kernel_rfl, rfl, rfl, fun _ _ _ _ _ _ us hl => match us, hl with | [_, _, _], _ => rfl⟩
theorem ok97 : DOk md x97 := ⟨rfl, rfl, rfl, C8.fnScope_by (by kernel_rfl), by rw [mg_eq]; kernel_rfl, rfl, rfl, fun _ _ _ _ _ _ us hl => match us, hl with | [_], _ => rfl⟩
theorem ok98 : DOk md x98 := ⟨rfl, rfl, rfl, C8.fnScope_by (by kernel_rfl), by rw [mg_eq]; kernel_rfl, rfl, rfl, fun _ _ _ _ _ _ us hl => match us, hl with | [_, _, _, _, _, _], _ => rfl⟩
theorem ok99 : DOk md x99 := ⟨rfl, rfl, rfl, C8.fnScope_by (by kernel_rfl), by rw [mg_eq]; kernel_rfl, rfl, rfl, fun _ _ _ _ _ _ us hl => match us, hl with | [_, _], _ => rfl⟩
theorem ok100 : DOk md x100 := ⟨rfl, rfl, rfl, C8.fnScope_by (by kernel_rfl), by rw [mg_eq]; kernel_rfl, rfl, rfl, fun _ _ _ _ _ _ us hl => match us, hl with | [_], _ => rfl⟩
theorem ok101 : DOk md x101 := ⟨rfl, rfl, rfl, C8.fnScope_by (by kernel_rfl), by rw [mg_eq]; kernel_rfl, rfl, rfl, fun _ _ _ _ _ _ us hl => match us, hl with | [_, _], _ => rfl⟩
theorem ok102 : DOk md x102 := ⟨rfl, rfl, rfl, C8.fnScope_by (by kernel_rfl), by rw [mg_eq]; kernel_rfl, rfl, rfl, fun _ _ _ _ _ _ us hl => match us, hl with | [_], _ => rfl⟩
theorem ok103 : DOk md x103 := ⟨rfl, rfl, rfl, C8.fnScope_by (by kernel_rfl), by rw [mg_eq]; kernel_rfl, rfl, rfl, fun _ _ _ _ _ _ us hl => match us, hl with | [_, _], _ => rfl⟩
theorem ok104 : DOk md x104 := ⟨rfl, rfl, rfl, C8.fnScope_by (by kernel_rfl), by rw [mg_eq]; kernel_rfl, rfl, rfl, fun _ _ _ _ _ _ us hl => match us, hl with | [_, _], _ => rfl⟩
theorem ok105 : DOk md x105 := ⟨rfl, rfl, rfl, C8.fnScope_by (by kernel_rfl), by rw [mg_eq]; kernel_rfl, rfl, rfl, fun _ _ _ _ _ _ us hl => match us, hl with | [_, _], _ => rfl⟩
theorem ok106 : DOk md x106 := ⟨rfl, rfl, rfl, C8.fnScope_by (by kernel_rfl), by rw [mg_eq]; kernel_rfl, rfl, rfl, fun _ _ _ _ _ _ us hl => match us, hl with | [_, _, _, _], _ => rfl⟩
theorem ok107 : DOk md x107 := ⟨rfl, rfl, rfl, C8.fnScope_by (by kernel_rfl), by rw [mg_eq]; kernel_rfl, rfl, rfl, fun _ _ _ _ _ _ us hl => match us, hl with | [_, _], _ => rfl⟩
theorem ok108 : DOk md x108 := ⟨rfl, rfl, rfl, C8.fnScope_by (by kernel_rfl), by rw [mg_eq]; kernel_rfl, rfl, rfl, fun _ _ _ _ _ _ us hl => match us, hl with | [_, _], _ => rfl⟩
theorem ok109 : DOk md x109 := ⟨rfl, rfl, rfl, C8.fnScope_by (by kernel_rfl), by rw [mg_eq]; kernel_rfl, rfl, rfl, fun _ _ _ _ _ _ us hl => match us, hl with | [_, _], _ => rfl⟩
theorem ok110 : DOk md x110 := ⟨rfl, rfl, rfl, C8.fnScope_by (by kernel_rfl), by rw [mg_eq]; kernel_rfl, rfl, rfl, fun _ _ _ _ _ _ us hl => match us, hl with | [_, _, _], _ => rfl⟩
theorem ok111 : DOk md x111 := ⟨rfl, rfl, rfl, C8.fnScope_by (by kernel_rfl), by rw [mg_eq]; kernel_rfl, rfl, rfl, fun _ _ _ _ _ _ us hl => match us, hl with | [_, _], _ => rfl⟩
theorem ok112 : DOk md x112 := ⟨rfl, rfl, rfl, C8.fnScope_by (by kernel_rfl), by rw [mg_eq]; kernel_rfl, rfl, rfl, fun _ _ _ _ _ _ us hl => match us, hl with | [_, _], _ => rfl⟩
theorem ok113 : DOk md x113 := ⟨rfl, rfl, rfl, C8.fnScope_by (by kernel_rfl), by rw [mg_eq]; kernel_rfl, rfl, rfl, fun _ _ _ _ _ _ us hl => match us, hl with | [_], _ => rfl⟩
theorem ok114 : DOk md x114 := ⟨rfl, rfl, rfl, C8.fnScope_by (by kernel_rfl), by rw [mg_eq]; kernel_rfl, rfl, rfl, fun _ _ _ _ _ _ us hl => match us, hl with | [_], _ => rfl⟩
theorem ok115 : DOk md x115 := ⟨rfl, rfl, rfl, C8.fnScope_by (by kernel_rfl), by rw [mg_eq]; kernel_rfl, rfl, rfl, fun _ _ _ _ _ _ us hl => match us, hl with | [_, _, _], _ => rfl⟩
theorem ok116 : DOk md x116 := ⟨rfl, rfl, rfl, C8.fnScope_by (by kernel_rfl), by rw [mg_eq]; kernel_rfl, rfl, rfl, fun _ _ _ _ _ _ us hl => match us, hl with | [_, _, _], _ => rfl⟩
theorem ok117 : DOk md x117 := ⟨rfl, rfl, rfl, C8.fnScope_by (by kernel_rfl), by rw [mg_eq]; kernel_rfl, rfl, rfl, fun _ _ _ _ _ _ us hl => match us, hl with | [_, _], _ => rfl⟩
theorem ok118 : DOk md x118 := ⟨rfl, rfl, rfl, C8.fnScope_by (by kernel_rfl), by rw [mg_eq]; kernel_rfl, rfl, rfl, fun _ _ _ _ _ _ us hl => match us, hl with | [_, _, _, _], _ => rfl⟩
theorem ok119 : DOk md x119 := ⟨rfl, rfl, rfl, C8.fnScope_by (by kernel_rfl), by rw [mg_eq]; kernel_rfl, rfl, rfl, fun _ _ _ _ _ _ us hl => match us, hl with | [_, _, _, _, _], _ => rfl⟩
theorem ok120 : DOk md x120 := ⟨rfl, rfl, rfl, C8.fnScope_by (by kernel_rfl), by rw [mg_eq]; kernel_rfl, rfl, rfl, fun _ _ _ _ _ _ us hl => match us, hl with | [_, _], _ => rfl⟩
theorem ok121 : DOk md x121 := ⟨rfl, rfl, rfl, C8.fnScope_by (by kernel_rfl), by rw [mg_eq]; kernel_rfl, rfl, rfl, fun _ _ _ _ _ _ us hl => match us, hl with | [_, _, _], _ => rfl⟩
theorem ok122 : DOk md x122 := ⟨rfl, rfl, rfl, C8.fnScope_by (by kernel_rfl), by rw [mg_eq]; kernel_rfl, rfl, rfl, fun _ _ _ _ _ _ us hl => match us, hl with | [_, _], _ => rfl⟩
theorem ok123 : DOk md x123 := ⟨rfl, rfl, rfl, C8.fnScope_by (by kernel_rfl), by rw [mg_eq]; kernel_rfl, rfl, rfl, fun _ _ _ _ _ _ us hl => match us, hl with | [_, _, _], _ => rfl⟩
theorem ok124 : DOk md x124 := ⟨rfl, rfl, rfl, C8.fnScope_by (by kernel_rfl), by rw [mg_eq]; kernel_rfl, rfl, rfl, fun _ _ _ _ _ _ us hl => match us, hl with | [_], _ => rfl⟩
theorem all0 : ∀ x ∈ defs0, DOk md x := fun x h => by
  simp only [defs0, List.mem_cons, List.not_mem_nil, or_false] at h
  rcases h with rfl | rfl | rfl | rfl | rfl | rfl | rfl | rfl | rfl | rfl | rfl | rfl | rfl | rfl | rfl | rfl | rfl | rfl | rfl | rfl | rfl | rfl | rfl | rfl | rfl | rfl | rfl | rfl | rfl | rfl
  · exact ok0
  · exact ok1
  · exact ok2
  · exact ok3
  · exact ok4
  · exact ok5
  · exact ok6
  · exact ok7
  · exact ok8
  · exact ok9
  · exact ok10
  · exact ok11
  · exact ok12
  · exact ok13
  · exact ok14
  · exact ok15
  · exact ok16
  · exact ok17
  · exact ok18
  · exact ok19
  · exact ok20
  · exact ok21
  · exact ok22
  · exact ok23
  · exact ok24
  · exact ok25
  · exact ok26
  · exact ok27
  · exact ok28
  · exact ok29
theorem all1 : ∀ x ∈ defs1, DOk md x := fun x h => by
  simp only [defs1, List.mem_cons, List.not_mem_nil, or_false] at h
  rcases h with rfl | rfl | rfl | rfl | rfl | rfl | rfl | rfl | rfl | rfl | rfl | rfl | rfl | rfl | rfl | rfl | rfl | rfl | rfl | rfl | rfl | rfl | rfl | rfl | rfl | rfl | rfl | rfl | rfl | rfl
  · exact ok30
  · exact ok31
  · exact ok32
  · exact ok33
  · exact ok34
  · exact ok35
  · exact ok36
  · exact ok37
  · exact ok38
  · exact ok39
  · exact ok40
  · exact ok41
  · exact ok42
  · exact ok43
  · exact ok44
  · exact ok45
  · exact ok46
  · exact ok47
  · exact ok48
  · exact ok49
  · exact ok50
  · exact ok51
  · exact ok52
  · exact ok53
  · exact ok54
  · exact ok55
  · exact ok56
  · exact ok57
  · exact ok58
  · exact ok59
theorem all2 : ∀ x ∈ defs2, DOk md x := fun x h => by
  simp only [defs2, List.mem_cons, List.not_mem_nil, or_false] at h
  rcases h with rfl | rfl | rfl | rfl | rfl | rfl | rfl | rfl | rfl | rfl | rfl | rfl | rfl | rfl | rfl | rfl | rfl | rfl | rfl | rfl | rfl | rfl | rfl | rfl | rfl | rfl | rfl | rfl | rfl | rfl
  · exact ok60
  · exact ok61
  · exact ok62
  · exact ok63
  · exact ok64
  · exact ok65
  · exact ok66
  · exact ok67
  · exact ok68
  · exact ok69
  · exact ok70
  · exact ok71
  · exact ok72
  · exact ok73
  · exact ok74
  · exact ok75
  · exact ok76
  · exact ok77
  · exact ok78
  · exact ok79
  · exact ok80
  · exact ok81
  · exact ok82
  · exact ok83
  · exact ok84
  · exact ok85
  · exact ok86
  · exact ok87
  · exact ok88
  · exact ok89
theorem all3 : ∀ x ∈ defs3, DOk md x := fun x h => by
  simp only [defs3, List.mem_cons, List.not_mem_nil, or_false] at h
  rcases h with rfl | rfl | rfl | rfl | rfl | rfl | rfl | rfl | rfl | rfl | rfl | rfl | rfl | rfl | rfl | rfl | rfl | rfl | rfl | rfl | rfl | rfl | rfl | rfl | rfl | rfl | rfl | rfl | rfl | rfl
  · exact ok90
  · exact ok91
  · exact ok92
  · exact ok93
  · exact ok94
  · exact ok95
  · exact ok96
  · exact ok97
  · exact ok98
  · exact ok99
  · exact ok100
  · exact ok101
  · exact ok102
  · exact ok103
  · exact ok104
  · exact ok105
  · exact ok106
  · exact ok107
  · exact ok108
  · exact ok109
  · exact ok110
  · exact ok111
  · exact ok112
  · exact ok113
  · exact ok114
  · exact ok115
  · exact ok116
  · exact ok117
  · exact ok118
  · exact ok119
theorem all4 : ∀ x ∈ defs4, DOk md x := fun x h => by
  simp only [defs4, List.mem_cons, List.not_mem_nil, or_false] at h
  rcases h with rfl | rfl | rfl | rfl | rfl
  · exact ok120
  · exact ok121
  · exact ok122
  · exact ok123
  · exact ok124
theorem hall : ∀ x ∈ md.defs, DOk md x := fun x h => by
  rw [defs_eq] at h
  unfold defs at h
  simp only [List.mem_append] at h
  rcases h with (((h | h) | h) | h) | h
  · exact all0 x h
  · exact all1 x h
  · exact all2 x h
  · exact all3 x h
  · exact all4 x h
theorem hib : ∀ x ∈ md.xds, InitBind x.fs ∧ ((∃ f, x.fs = [f]) ∨ ∃ f g, x.fs = [f, g]) := fun x h => by
  rw [xds_eq] at h
  simp only [xds, xds0, List.mem_cons, List.not_mem_nil, or_false] at h
  rcases h with rfl | rfl | rfl | rfl | rfl | rfl | rfl | rfl | rfl | rfl | rfl | rfl
  · exact ⟨ib_place, .inl ⟨_, rfl⟩⟩
  · exact ⟨ib_value, .inl ⟨_, rfl⟩⟩
  · exact ⟨ib_place, .inl ⟨_, rfl⟩⟩
  · exact ⟨ib_word, .inl ⟨_, rfl⟩⟩
  · exact ⟨ib_word, .inl ⟨_, rfl⟩⟩
  · exact ⟨ib_word, .inl ⟨_, rfl⟩⟩
  · exact ⟨ib_stream, .inl ⟨_, rfl⟩⟩
  · exact ⟨ib_value, .inl ⟨_, rfl⟩⟩
  · exact ⟨ib_value, .inl ⟨_, rfl⟩⟩
  · exact ⟨ib_value, .inl ⟨_, rfl⟩⟩
  · exact ⟨ib_value, .inl ⟨_, rfl⟩⟩
  · exact ⟨ib_most, .inl ⟨_, rfl⟩⟩
theorem mdok : MdOk md := ⟨of_decide_eq_true (by kernel_rfl), by kernel_rfl, by kernel_rfl, by kernel_rfl⟩
end M76
end
section
set_option Elab.async false
set_option linter.all false
set_option maxRecDepth 100000
set_option maxHeartbeats 0
open PySem PySem.W PySem.Calls PyProof.Rows OL
theorem M76.holds_of (hr : Runs M76.md.prog 30 124 63) : PySem.Challenge.rw_prefixwire_k76_whole_scripts_judged.Holds := by
  w_on; o_law
  refine HandSHeadRun.head_any (r := OpenLaw.row PySem.Challenge.rw_prefixwire_k76_whole_scripts_judged) (q := view (OpenLaw.row PySem.Challenge.rw_prefixwire_k76_whole_scripts_judged).prog [162]) (H := M76.hk) (ob := M76.ob) (M := 40000) (loose := M76.names) (d := HandSHeadRun.topDef (OpenLaw.row PySem.Challenge.rw_prefixwire_k76_whole_scripts_judged).prog 162) (kwd := []) M76.ob_eq
    (by kernel_rfl) (fun s => by kernel_rfl) M76.run (by kernel_rfl) (by kernel_rfl) (by kernel_rfl) (by rfl) (by first | assumption | decide +kernel) (by decide +kernel) ⟨rfl, rfl, rfl, rfl, rfl, by decide +kernel⟩ ?hw ?hc
  case hw => w_witness2
  case hc => exact Md.walk (n := 63) (dep := 29) (f := 124) (x := M76.x124) (p := "_law_script_here") rfl (by decide) (by kernel_rfl) ⟨rfl, by decide, by decide⟩ M76.mdok M76.hall M76.hib (by rw [M76.defs_eq]; rfl) (by kernel_rfl) rfl hr
end
section
set_option Elab.async false
set_option linter.all false
set_option maxRecDepth 100000
set_option maxHeartbeats 1000000
/-! OM, part s: the small language evaluated, rule by rule. -/
namespace OL
open PySem
/-! ### no look behind what stands first -/
/-! ### values -/
@[simp] theorem plain_non : OL.plain .non = some .non := rfl
@[simp] theorem plain_bl (b : Bool) : OL.plain (.bl b) = some (.bl b) := rfl
@[simp] theorem plain_int (b : Int) : OL.plain (.int b) = some (.int b) := rfl
@[simp] theorem plain_str (b : Str) : OL.plain (.str b) = some (.str b) := rfl
@[simp] theorem plain_tup (l : List PV) : OL.plain (.tup l) = some (.tup l) := rfl
@[simp] theorem plain_lv (l : List PV) : OL.plain (.lv l) = some (.lv l) := rfl
@[simp] theorem plain_dv (k : List Ky) (l : List PV) : OL.plain (.dv k l) = some (.dv k l) := rfl
@[simp] theorem plain_ref (i : Nat) : OL.plain (.ref i) = some (.ref i) := rfl
@[simp] theorem plain_sc (l : List PV) : OL.plain (.sc l) = some (.sc l) := rfl
@[simp] theorem plain_fn (i : Nat) : OL.plain (.fn i) = some (.fn i) := rfl
@[simp] theorem unown_own' (v : PV) : unown (.own v) = some v := rfl
@[simp] theorem disown_own (v : PV) : disown (.own v) = v := rfl
@[simp] theorem disown_non : disown .non = .non := rfl
@[simp] theorem disown_bl (b : Bool) : disown (.bl b) = .bl b := rfl
@[simp] theorem disown_int (b : Int) : disown (.int b) = .int b := rfl
@[simp] theorem disown_str (b : Str) : disown (.str b) = .str b := rfl
@[simp] theorem disown_tup (l : List PV) : disown (.tup l) = .tup l := rfl
@[simp] theorem disown_lv (l : List PV) : disown (.lv l) = .lv l := rfl
@[simp] theorem disown_dv (k : List Ky) (l : List PV) : disown (.dv k l) = .dv k l := rfl
@[simp] theorem disown_ref (i : Nat) : disown (.ref i) = .ref i := rfl
@[simp] theorem truth_non (μ : Sto) : truth μ .non = some false := rfl
@[simp] theorem truth_bl (μ : Sto) (b : Bool) : truth μ (.bl b) = some b := rfl
@[simp] theorem truth_int (μ : Sto) (i : Int) : truth μ (.int i) = some (i != 0) := rfl
@[simp] theorem truth_tup (μ : Sto) (l : List PV) : truth μ (.tup l) = some (!l.isEmpty) := rfl
@[simp] theorem truth_lv (μ : Sto) (l : List PV) : truth μ (.lv l) = some (!l.isEmpty) := rfl
@[simp] theorem trR_bl (μ : Sto) (b : Bool) : trR (.bl b) μ = .ok b μ := rfl
theorem trR_of {μ : Sto} {v : PV} {b : Bool} (h : truth μ v = some b) : trR v μ = .ok b μ := by unfold trR; rw [h]; rfl
@[simp] theorem slot_z (v : Option PV) (r : Env) : slot (v :: r) 0 = v := by cases v <;> rfl
@[simp] theorem slot_s (v : Option PV) (r : Env) (i : Nat) : slot (v :: r) (i + 1) = slot r i := rfl
/-! ### expressions -/
section
variable (cf : CF) (o0 : Option PV) (env : Env) (μ : Sto)
@[simp] theorem ev_con (v : PV) : evE cf (.con v) (o0 :: env) μ = .ok v μ := by rw [evE]
@[simp] theorem ev_var (i : Nat) : evE cf (.var i) (o0 :: env) μ = Res.opt ((slot (o0 :: env) i).bind OL.plain) μ := by rw [evE]
@[simp] theorem ev_own (i : Nat) : evE cf (.own i) (o0 :: env) μ = Res.opt ((slot (o0 :: env) i).bind unown) μ := by rw [evE]
@[simp] theorem ev_glo (n : Nat) : evE cf (.glo n) (o0 :: env) μ = .ok (cf.glo n) μ := by rw [evE]
@[simp] theorem ev_bin (o : Bop) (a b : E) : evE cf (.bin o a b) (o0 :: env) μ = (evE cf a (o0 :: env) μ).bind fun x μ => (evE cf b (o0 :: env) μ).bind fun y μ => binOp o x y μ := by rw [evE]
@[simp] theorem ev_not (a : E) : evE cf (.not a) (o0 :: env) μ = (evE cf a (o0 :: env) μ).bind fun x μ => (trR x μ).bind fun b μ => .ok (.bl (!b)) μ := by rw [evE]
@[simp] theorem ev_and (a b : E) : evE cf (.and a b) (o0 :: env) μ = (evE cf a (o0 :: env) μ).bind fun x μ => (trR x μ).bind fun t μ => if t = true then evE cf b (o0 :: env) μ else .ok x μ := by rw [evE]
@[simp] theorem ev_or (a b : E) : evE cf (.or a b) (o0 :: env) μ = (evE cf a (o0 :: env) μ).bind fun x μ => (trR x μ).bind fun t μ => if t = true then .ok x μ else evE cf b (o0 :: env) μ := by rw [evE]
@[simp] theorem ev_ife (c a b : E) : evE cf (.ife c a b) (o0 :: env) μ = (evE cf c (o0 :: env) μ).bind fun x μ => (trR x μ).bind fun t μ => if t = true then evE cf a (o0 :: env) μ else evE cf b (o0 :: env) μ := by rw [evE]
@[simp] theorem ev_cmp (o : Cop) (a b : E) : evE cf (.cmp o a b) (o0 :: env) μ = (evE cf a (o0 :: env) μ).bind fun x μ => (evE cf b (o0 :: env) μ).bind fun y μ => Res.opt ((cmpOp o x y μ).map .bl) μ := by rw [evE]
@[simp] theorem ev_chn (o p : Cop) (a b c : E) : evE cf (.chn o p a b c) (o0 :: env) μ = (evE cf a (o0 :: env) μ).bind fun x μ => (evE cf b (o0 :: env) μ).bind fun y μ => (Res.opt (cmpOp o x y μ) μ).bind fun t μ =>
      if t = true then (evE cf c (o0 :: env) μ).bind fun z μ => Res.opt ((cmpOp p y z μ).map .bl) μ else .ok (.bl false) μ := by rw [evE]
@[simp] theorem ev_tup (l : List E) : evE cf (.tup l) (o0 :: env) μ = (evEs cf l (o0 :: env) μ).bind fun vs μ => if vs.length ≤ SZ then .ok (.tup vs) μ else .err := by rw [evE]
@[simp] theorem ev_lst (l : List E) : evE cf (.lst l) (o0 :: env) μ = (evEs cf l (o0 :: env) μ).bind fun vs μ => if vs.length ≤ SZ then .ok (.lv vs) μ else .err := by rw [evE]
@[simp] theorem ev_dic (l : List E) : evE cf (.dic l) (o0 :: env) μ = (evEs cf l (o0 :: env) μ).bind fun vs μ => if vs.length ≤ 30 then Res.opt ((disD vs ([], [])).map fun d => .dv d.1 d.2) μ else .err := by rw [evE]
@[simp] theorem ev_idx (a i : E) : evE cf (.idx a i) (o0 :: env) μ = (evE cf a (o0 :: env) μ).bind fun x μ => (evE cf i (o0 :: env) μ).bind fun y μ => Res.opt (idxM μ x y) μ := by rw [evE]
@[simp] theorem ev_slc (a : E) (lo hi : Option E) : evE cf (.slc a lo hi) (o0 :: env) μ = (evE cf a (o0 :: env) μ).bind fun x μ => (evO cf lo (o0 :: env) μ).bind fun i μ => (evO cf hi (o0 :: env) μ).bind fun j μ => Res.opt (cutM x i j) μ := by rw [evE]
@[simp] theorem ev_isi (a : E) (t : Ty) : evE cf (.isi a t) (o0 :: env) μ = (evE cf a (o0 :: env) μ).bind fun x μ => Res.opt ((tyOf μ x t).map .bl) μ := by rw [evE]
@[simp] theorem ev_cll (f : Nat) (l : List E) : evE cf (.call f l) (o0 :: env) μ = (evEs cf l (o0 :: env) μ).bind fun vs μ => (cf.call f vs μ).bind fun r μ => .ok (disown r) μ := by rw [evE]
@[simp] theorem ev_clo (f : Nat) (l : List E) : evE cf (.calo f l) (o0 :: env) μ = (evEs cf l (o0 :: env) μ).bind fun vs μ => (cf.call f vs μ).bind fun r μ => Res.opt (unown r) μ := by rw [evE]
@[simp] theorem ev_blt (b : Bi) (l : List E) : evE cf (.blt b l) (o0 :: env) μ = (evEs cf l (o0 :: env) μ).bind fun vs μ => bltM b vs μ := by rw [evE]
@[simp] theorem ev_met (m : Me) (o : E) (l : List E) : evE cf (.met m o l) (o0 :: env) μ = (evE cf o (o0 :: env) μ).bind fun x μ => if metOk m x = true then (evEs cf l (o0 :: env) μ).bind fun vs μ => metM m x vs μ else .err := by rw [evE]
@[simp] theorem ev_rng (l : List E) : evE cf (.rng l) (o0 :: env) μ = (evEs cf l (o0 :: env) μ).bind fun vs μ => Res.opt (rgOf vs) μ := by rw [evE]
@[simp] theorem ev_enu (a : E) (s : Option E) : evE cf (.enu a s) (o0 :: env) μ = (evE cf a (o0 :: env) μ).bind fun x μ => (evO cf s (o0 :: env) μ).bind fun i μ => .ok (.enu x (i.getD 0)) μ := by rw [evE]
@[simp] theorem evs_nil : evEs cf [] (o0 :: env) μ = .ok [] μ := by rw [evEs]
@[simp] theorem evs_cons (e : E) (r : List E) : evEs cf (e :: r) (o0 :: env) μ = (evE cf e (o0 :: env) μ).bind fun v μ => (evEs cf r (o0 :: env) μ).bind fun vs μ => .ok (v :: vs) μ := by rw [evEs]
@[simp] theorem evo_none : evO cf none (o0 :: env) μ = .ok none μ := by rw [evO]
@[simp] theorem evif_none : evIf cf none (o0 :: env) μ = .ok true μ := by rw [evIf]
@[simp] theorem evif_some (e : E) : evIf cf (some e) (o0 :: env) μ = (evE cf e (o0 :: env) μ).bind trR := by rw [evIf]
/-! ### statements -/
@[simp] theorem st_nil : evSs cf [] (o0 :: env) μ = .ok .nx (o0 :: env) μ := by rw [evSs]
@[simp] theorem st_cons (s : S) (r : List S) : evSs cf (s :: r) (o0 :: env) μ = (evS cf s (o0 :: env) μ).seq (evSs cf r) := by rw [evSs]
@[simp] theorem st_expr (e : E) : evS cf (.expr e) (o0 :: env) μ = (evE cf e (o0 :: env) μ).thn (o0 :: env) fun _ μ => .ok .nx (o0 :: env) μ := by rw [evS]
@[simp] theorem st_asg (t : Tg) (e : E) : evS cf (.asg t e) (o0 :: env) μ = (evE cf e (o0 :: env) μ).thn (o0 :: env) fun v μ => nxO (assT t v (o0 :: env)) μ := by rw [evS]
@[simp] theorem st_par (ts : List (Nat × Bool)) (es : List E) : evS cf (.par ts es) (o0 :: env) μ = (evEs cf es (o0 :: env) μ).thn (o0 :: env) fun vs μ => nxO (assPar ts vs (o0 :: env)) μ := by rw [evS]
@[simp] theorem st_oasg (i : Nat) (e : E) : evS cf (.oasg i e) (o0 :: env) μ = (evE cf e (o0 :: env) μ).thn (o0 :: env) fun v μ => nxO (setO (o0 :: env) i v) μ := by rw [evS]
@[simp] theorem st_iff (c : E) (a b : List S) : evS cf (.iff c a b) (o0 :: env) μ = ((evE cf c (o0 :: env) μ).bind trR).thn (o0 :: env) fun t μ => if t = true then evSs cf a (o0 :: env) μ else evSs cf b (o0 :: env) μ := by rw [evS]
@[simp] theorem st_ret (e : E) (h : ∀ i, e = .own i → False) : evS cf (.ret (some e)) (o0 :: env) μ = (evE cf e (o0 :: env) μ).thn (o0 :: env) fun v μ => .ok (.rt v) (o0 :: env) μ := by rw [evS]; exact h
@[simp] theorem st_retO (i : Nat) : evS cf (.ret (some (.own i))) (o0 :: env) μ = (match getO (o0 :: env) i with
      | some v => .ok (.ro v) (o0 :: env) μ
      | none => .err) := by rw [evS] <;> rfl
@[simp] theorem st_rai (c : Nat) (l : List E) : evS cf (.rai c l) (o0 :: env) μ = (evEs cf l (o0 :: env) μ).thn (o0 :: env) fun vs μ => .exc c vs (o0 :: env) μ := by rw [evS]
end
@[simp] theorem outR_rt (v : PV) (env : Env) (μ : Sto) : outR (.ok (.rt v) env μ) = .ok v μ := rfl
@[simp] theorem outR_ro (v : PV) (env : Env) (μ : Sto) : outR (.ok (.ro v) env μ) = .ok (.own v) μ := rfl
@[simp] theorem outR_nx (env : Env) (μ : Sto) : outR (.ok .nx env μ) = .ok .non μ := rfl
@[simp] theorem outR_exc (c : Nat) (fs : List PV) (env : Env) (μ : Sto) : outR (.exc c fs env μ) = .exc c fs μ := rfl
/-! ### targets -/
@[simp] theorem as_nm (i : Nat) (v : PV) (env : Env) : assT (.nm i) v env = if i < env.length then some (env.set i (some v)) else none := by rw [assT]
@[simp] theorem as_tp (l : List Tg) (vs : List PV) (env : Env) : assT (.tp l) (.tup vs) env = assTs l vs env := by rw [assT]
@[simp] theorem ass_nil (env : Env) : assTs [] [] env = some env := by rw [assTs]
@[simp] theorem ass_cons (t : Tg) (ts : List Tg) (v : PV) (vs : List PV) (env : Env) : assTs (t :: ts) (v :: vs) env = (assT t v env).bind (assTs ts vs) := by rw [assTs]
@[simp] theorem par_nil (env : Env) : assPar [] [] env = some env := by rw [assPar]
@[simp] theorem par_cons (i : Nat) (o : Bool) (ts : List (Nat × Bool)) (v : PV) (vs : List PV) (env : Env) : assPar ((i, o) :: ts) (v :: vs) env = (setSlot env i (if o = true then .own v else v)).bind (assPar ts vs) := by rw [assPar]
/-! ### comparisons -/
@[simp] theorem cmp_lt (i j : Int) (μ : Sto) : cmpOp .lt (.int i) (.int j) μ = some (decide (i < j)) := rfl
@[simp] theorem cmp_le (i j : Int) (μ : Sto) : cmpOp .le (.int i) (.int j) μ = some (decide (i ≤ j)) := rfl
@[simp] theorem cmp_gt (i j : Int) (μ : Sto) : cmpOp .gt (.int i) (.int j) μ = some (decide (j < i)) := rfl
@[simp] theorem cmp_ge (i j : Int) (μ : Sto) : cmpOp .ge (.int i) (.int j) μ = some (decide (j ≤ i)) := rfl
@[simp] theorem cmp_isn (a : PV) (μ : Sto) : cmpOp .isn a .non μ = some (isNon a) := rfl
@[simp] theorem cmp_nisn (a : PV) (μ : Sto) : cmpOp .nisn a .non μ = some (!isNon a) := rfl
@[simp] theorem isNon_non : isNon .non = true := rfl
@[simp] theorem isNon_int (i : Int) : isNon (.int i) = false := rfl
@[simp] theorem isNon_tup (l : List PV) : isNon (.tup l) = false := rfl
@[simp] theorem isNon_bl (b : Bool) : isNon (.bl b) = false := rfl
@[simp] theorem isNon_str (b : Str) : isNon (.str b) = false := rfl
@[simp] theorem datS_int (f : Nat → Option PyData) (i : Int) : datS f (.int i) = some (.int i) := by rw [datS]
@[simp] theorem datS_str (f : Nat → Option PyData) (i : Str) : datS f (.str i) = some (.str i) := by rw [datS]
@[simp] theorem datS_bl (f : Nat → Option PyData) (i : Bool) : datS f (.bl i) = some (.bool i) := by rw [datS]
@[simp] theorem datS_non (f : Nat → Option PyData) : datS f .non = some .none := by rw [datS]
theorem eq_int (i j : Int) (μ : Sto) : eqM μ (.int i) (.int j) = some (decide (i = j)) := by
  unfold eqM datM
  simp only [datS_int]
  show (if True ∧ True then some (i == j) else none) = _
  by_cases h : i = j <;> simp [h]
@[simp] theorem cmp_eqI (i j : Int) (μ : Sto) : cmpOp .eq (.int i) (.int j) μ = some (decide (i = j)) := eq_int i j μ
@[simp] theorem cmp_neI (i j : Int) (μ : Sto) : cmpOp .ne (.int i) (.int j) μ = some (!decide (i = j)) := by
  show (eqM μ (.int i) (.int j)).map (!·) = _
  rw [eq_int]
  rfl
theorem eq_str {i j : Str} (hi : PyData.canLay0 (.str i) = true) (hj : PyData.canLay0 (.str j) = true) (μ : Sto) : eqM μ (.str i) (.str j) = some (decide (i = j)) := by
  unfold eqM datM
  simp only [datS_str]
  have a : SeqAt.shaped (.str i) = true := by unfold SeqAt.shaped; rw [hi]; rfl
  have b : SeqAt.shaped (.str j) = true := by unfold SeqAt.shaped; rw [hj]; rfl
  rw [if_pos ⟨a, b⟩]
  show some (i == j) = _
  by_cases h : i = j <;> simp [h]
@[simp] theorem bin_int (o : Bop) (i j : Int) (μ : Sto) : binOp o (.int i) (.int j) μ = (match intOp o i j with
    | some k => .ok (.int k) μ
    | none => .err) := rfl
/-! ### defs -/
theorem fun_at {m : Md} {ds : List DD} (h : m.defs = ds) (j : Nat) {D : FD} (e : (ds[j]?).map (·.D) = some D) : m.prog.funs[j]? = some D := by
  show (m.defs.map (·.D))[j]? = _
  rw [List.getElem?_map, h, e]
theorem call_at {P : Prog} {j : Nat} {D : FD} (h : P.funs[j]? = some D) (d : Nat) {vs : List PV} (hl : vs.length = D.npar) (μ : Sto) : (cfN P (d + 1)).call j vs μ = outR (evSs (cfN P d) D.body (entry D.nslot vs) μ) := by
  show (match P.funs[j]? with
    | some D => if vs.length = D.npar then outR (evSs (cfN P d) D.body (entry D.nslot vs) μ) else .err
    | none => .err) = _
  rw [h]
  simp [hl]
/-! ### ways kept apart -/
section
variable {α β : Type} {x y : Bool} {μ : Sto}
@[simp] theorem if_and1 : (if x = true then Res.ok (PV.bl y) μ else Res.ok (PV.bl x) μ) = Res.ok (.bl (x && y)) μ := by cases x <;> rfl
@[simp] theorem if_and2 : (if x = true then Res.ok (PV.bl y) μ else Res.ok (PV.bl false) μ) = Res.ok (.bl (x && y)) μ := by cases x <;> rfl
@[simp] theorem if_or1 : (if x = true then Res.ok (PV.bl x) μ else Res.ok (PV.bl y) μ) = Res.ok (.bl (x || y)) μ := by cases x <;> rfl
@[simp] theorem if_or2 : (if x = true then Res.ok (PV.bl true) μ else Res.ok (PV.bl y) μ) = Res.ok (.bl (x || y)) μ := by cases x <;> rfl
@[simp] theorem if_notL : (if x = false then Res.ok (PV.bl y) μ else Res.ok (PV.bl x) μ) = Res.ok (.bl (x || y)) μ := by cases x <;> rfl
@[simp] theorem if_bind {c : Prop} [Decidable c] {a b : Res α} {f : α → Sto → Res β} : (if c then a else b).bind f = if c then a.bind f else b.bind f := by split <;> rfl
@[simp] theorem if_thn {c : Prop} [Decidable c] {a b : Res α} {env : Env} {f : α → Sto → Out} : (if c then a else b).thn env f = if c then a.thn env f else b.thn env f := by split <;> rfl
@[simp] theorem if_seq {c : Prop} [Decidable c] {a b : Out} {f : Env → Sto → Out} : (if c then a else b).seq f = if c then a.seq f else b.seq f := by split <;> rfl
@[simp] theorem if_outR {c : Prop} [Decidable c] {a b : Out} : outR (if c then a else b) = if c then outR a else outR b := by split <;> rfl
end
end OL
end
section
set_option Elab.async false
set_option linter.all false
set_option maxRecDepth 100000
set_option maxHeartbeats 1000000
/-! OM, part t: loops over what does not change. -/
namespace OL
open PySem
/-- v walks the items l, whatever the store holds -/
def Walks (v : PV) (l : List PV) : Prop := ∀ μ k, itAt μ v k = some l[k]?
theorem walks_tup (l : List PV) : Walks (.tup l) l := fun μ k => by unfold itAt; rfl
theorem walks_lv (l : List PV) : Walks (.lv l) l := fun μ k => by unfold itAt; rfl
theorem walks_sc (l : List PV) : Walks (.sc l) l := fun μ k => by unfold itAt; rfl
theorem walks_rg {a b : Int} (h : rgOk a b 1 = true) : Walks (.rg a b 1) ((List.range (b - a).toNat).map fun k : Nat => .int (a + k)) := fun μ k => by
  unfold itAt
  have e : rgLen a b 1 = (b - a).toNat := by simp [rgLen]
  simp only [h, if_true, e]
  by_cases hk : k < (b - a).toNat
  · rw [if_pos hk, List.getElem?_map, List.getElem?_range hk]
    simp
  · rw [if_neg hk, List.getElem?_eq_none (by simpa using hk)]
def enumd (l : List PV) (s : Int) : List PV := l.zipIdx.map fun p => .tup [.int (s + p.2), p.1]
theorem walks_enu {v : PV} {l : List PV} {s : Int} (h : Walks v l) : Walks (.enu v s) (enumd l s) := fun μ k => by
  unfold itAt
  rw [h μ k]
  unfold enumd
  simp only [Option.map_some, List.getElem?_map, List.getElem?_zipIdx]
  cases l[k]? <;> simp
/-- a for loop over items -/
def forL (asn : PV → Env → Option Env) (b : Env → Sto → Out) : List PV → Env → Sto → Out
  | [], env, μ => .ok .nx env μ
  | x :: r, env, μ => match asn x env with
    | none => .err
    | some env => match b env μ with
      | .ok .nx env μ => forL asn b r env μ
      | .ok .ct env μ => forL asn b r env μ
      | .ok .bk env μ => .ok .nx env μ
      | r => r
theorem forF_at {asn : PV → Env → Option Env} {b : Env → Sto → Out} {v : PV} {l : List PV} (h : Walks v l) : ∀ (n k : Nat) (env : Env) (μ : Sto), l.length ≤ k + n → forF asn b v n k env μ = forL asn b (l.drop k) env μ
  | n, k, env, μ, hn => by
    unfold forF
    rw [h μ k]
    cases e : l[k]? with
    | none =>
      rw [List.drop_eq_nil_of_le (List.getElem?_eq_none_iff.mp e)]
      rfl
    | some x =>
      have hk := (List.getElem?_eq_some_iff.mp e).1
      have hd : l.drop k = x :: l.drop (k + 1) := by
        rw [List.drop_eq_getElem_cons hk, (List.getElem?_eq_some_iff.mp e).2]
      rw [hd]
      cases n with
      | zero => omega
      | succ n =>
        unfold forL
        simp only
        cases asn x env with
        | none => rfl
        | some env' =>
          simp only
          cases b env' μ with
          | ok fl env2 μ2 =>
            cases fl <;> first | exact forF_at h n (k + 1) env2 μ2 (by omega) | rfl
          | exc c fs env2 μ2 => rfl
          | err => rfl
/-- a comprehension's walk over items -/
def gatL {α : Type} (f : PV → α → Sto → Res α) : List PV → α → Sto → Res α
  | [], acc, μ => .ok acc μ
  | x :: r, acc, μ => (f x acc μ).bind fun acc μ => gatL f r acc μ
theorem gather_at {α : Type} {f : PV → α → Sto → Res α} {v : PV} {l : List PV} (h : Walks v l) : ∀ (n k : Nat) (acc : α) (μ : Sto), l.length ≤ k + n → gather f v n k acc μ = gatL f (l.drop k) acc μ
  | n, k, acc, μ, hn => by
    unfold gather
    rw [h μ k]
    cases e : l[k]? with
    | none =>
      rw [List.drop_eq_nil_of_le (List.getElem?_eq_none_iff.mp e)]
      cases n <;> rfl
    | some x =>
      have hk := (List.getElem?_eq_some_iff.mp e).1
      have hd : l.drop k = x :: l.drop (k + 1) := by
        rw [List.drop_eq_getElem_cons hk, (List.getElem?_eq_some_iff.mp e).2]
      rw [hd]
      cases n with
      | zero => omega
      | succ n =>
        unfold gatL
        simp only
        cases f x acc μ with
        | ok a m => exact gather_at h n (k + 1) a m (by omega)
        | exc c fs m => rfl
        | err => rfl
theorem gat_ok {f : PV → List PV → Sto → Res (List PV)} {g : PV → List PV} : ∀ {l : List PV} {acc : List PV} {μ : Sto}, (∀ x ∈ l, ∀ acc, acc.length + (g x).length ≤ SZ → f x acc μ = .ok (acc ++ g x) μ) → acc.length + (l.flatMap g).length ≤ SZ → gatL f l acc μ = .ok (acc ++ l.flatMap g) μ
  | [], acc, μ, _, _ => by simp [gatL]
  | x :: r, acc, μ, h, hl => by
    have e1 : (List.flatMap g (x :: r)).length = (g x).length + (r.flatMap g).length := by simp
    unfold gatL
    rw [h x List.mem_cons_self acc (by omega)]
    show gatL f r (acc ++ g x) μ = _
    rw [gat_ok (fun y hy => h y (List.mem_cons_of_mem _ hy)) (by rw [List.length_append]; omega)]
    simp

/-- what may be walked, its items -/
structure Wk (μ : Sto) (v : PV) (l : List PV) : Prop where
  ok : itOk μ v = true
  walks : Walks v l
  len : l.length ≤ itLen μ v
theorem wk_tup (μ : Sto) (l : List PV) : Wk μ (.tup l) l := ⟨rfl, walks_tup l, Nat.le_refl _⟩
theorem wk_lv (μ : Sto) (l : List PV) : Wk μ (.lv l) l := ⟨rfl, walks_lv l, Nat.le_refl _⟩
theorem wk_sc (μ : Sto) (l : List PV) : Wk μ (.sc l) l := ⟨rfl, walks_sc l, Nat.le_refl _⟩
theorem wk_rg (μ : Sto) {a b : Int} (h : rgOk a b 1 = true) : Wk μ (.rg a b 1) ((List.range (b - a).toNat).map fun k : Nat => .int (a + k)) := ⟨by simp [itOk, h], walks_rg h, by
  simp [itLen, rgLen]⟩
theorem wk_enuT (μ : Sto) (l : List PV) : Wk μ (.enu (.tup l) 0) (enumd l 0) := ⟨rfl, walks_enu (walks_tup l), by simp [enumd, itLen]⟩
theorem wk_enuL (μ : Sto) (l : List PV) : Wk μ (.enu (.lv l) 0) (enumd l 0) := ⟨rfl, walks_enu (walks_lv l), by simp [enumd, itLen]⟩
theorem wk_enuS (μ : Sto) (l : List PV) : Wk μ (.enu (.sc l) 0) (enumd l 0) := ⟨rfl, walks_enu (walks_sc l), by simp [enumd, itLen]⟩
section
variable {cf : CF} {env : Env} {μ μ' : Sto}
theorem forr_at {t : Tg} {it : E} {b : List S} {v : PV} {l : List PV} (h : evE cf it env μ = .ok v μ') (w : Wk μ' v l) : evS cf (.forr t it b) env μ = forL (assT t) (evSs cf b) l env μ' := by
  rw [evS, h, Res.bind_ok]
  unfold itR
  rw [if_pos w.ok]
  show forF (assT t) (evSs cf b) v (itLen μ' v) 0 env μ' = _
  rw [forF_at w.walks _ _ _ _ (by have := w.len; omega)]
  rfl
theorem comp_at {elt : E} {tg : Tg} {it : E} {ifs : Option E} {vs : List Nat} {src : PV} {items : List PV} {h : PV → List PV} (hi : evE cf it env μ = .ok src μ') (w : Wk μ' src items)
    (hs : ∀ x ∈ items, ∀ acc, acc.length + (h x).length ≤ SZ → stepL cf elt tg ifs vs env x acc μ' = .ok (acc ++ h x) μ') (hl : (items.flatMap h).length ≤ SZ) :
    evE cf (.comp elt tg it ifs vs) env μ = .ok (.lv (items.flatMap h)) μ' := by
  rw [evE, hi, Res.bind_ok]
  unfold itR
  rw [if_pos w.ok, Res.bind_ok]
  have e := gather_at (f := fun x acc μ => stepL cf elt tg ifs vs env x acc μ) w.walks (itLen μ' src) 0 [] μ' (by have := w.len; omega)
  rw [List.drop_zero, gat_ok hs (by simpa using hl)] at e
  have e2 : gather (fun x acc μ => (Res.opt (assT tg x (wipeE env vs)) μ).bind fun env' μ => (evIf cf ifs env' μ).bind fun t μ => if t = true then (evE cf elt env' μ).bind (snocL acc) else .ok acc μ) src (itLen μ' src) 0 [] μ' = .ok ([] ++ items.flatMap h) μ' := e
  rw [e2]
  simp
/-- one item's way: a value, none -/
theorem step_yes {elt : E} {tg : Tg} {ifs : Option E} {vs : List Nat} {x v : PV} {acc : List PV} {env' : Env} (h1 : assT tg x (wipeE env vs) = some env') (h2 : evIf cf ifs env' μ = .ok true μ) (h3 : evE cf elt env' μ = .ok v μ) (hl : acc.length + [v].length ≤ SZ) :
    stepL cf elt tg ifs vs env x acc μ = .ok (acc ++ [v]) μ := by
  unfold stepL
  rw [h1, Res.opt_some, Res.bind_ok, h2, Res.bind_ok, if_pos rfl, h3, Res.bind_ok]
  unfold snocL
  have : acc.length < SZ := by simp at hl; omega
  rw [if_pos this]
theorem step_no {elt : E} {tg : Tg} {ifs : Option E} {vs : List Nat} {x : PV} {acc : List PV} {env' : Env} (h1 : assT tg x (wipeE env vs) = some env') (h2 : evIf cf ifs env' μ = .ok false μ) : stepL cf elt tg ifs vs env x acc μ = .ok (acc ++ []) μ := by
  unfold stepL
  rw [h1, Res.opt_some, Res.bind_ok, h2, Res.bind_ok]
  simp
end
section
variable {cf : CF} {env : Env} {μ μ' : Sto}
theorem gat_filter {α : Type} {f : PV → List PV → Sto → Res (List PV)} {it val : α → PV} {p : α → Bool} : ∀ {l : List α} {acc : List PV}, (∀ a ∈ l, ∀ acc, acc.length < SZ → f (it a) acc μ = .ok (if p a = true then acc ++ [val a] else acc) μ) → acc.length + l.length ≤ SZ →
    gatL f (l.map it) acc μ = .ok (acc ++ (l.filter p).map val) μ
  | [], acc, _, _ => by simp [gatL]
  | a :: l, acc, h, hl => by
    rw [List.length_cons] at hl
    rw [List.map_cons]
    unfold gatL
    rw [h a List.mem_cons_self acc (by omega), Res.bind_ok]
    have ih := fun acc hl => gat_filter (l := l) (acc := acc) (fun b hb => h b (List.mem_cons_of_mem _ hb)) hl
    by_cases hp : p a = true
    · rw [if_pos hp, ih _ (by rw [List.length_append]; simp; omega), List.filter_cons_of_pos hp]
      simp
    · rw [if_neg hp, ih _ (by omega), List.filter_cons_of_neg hp]
/-- a comprehension that keeps what passes -/
theorem comp_filter {α : Type} {elt : E} {tg : Tg} {itE : E} {ifs : Option E} {vs : List Nat} {src : PV} {l : List α} {it val : α → PV} {p : α → Bool} (hi : evE cf itE env μ = .ok src μ') (w : Wk μ' src (l.map it))
    (hs : ∀ a ∈ l, ∃ env', assT tg (it a) (wipeE env vs) = some env' ∧ evIf cf ifs env' μ' = .ok (p a) μ' ∧ (p a = true → evE cf elt env' μ' = .ok (val a) μ')) (hl : l.length ≤ SZ) :
    evE cf (.comp elt tg itE ifs vs) env μ = .ok (.lv ((l.filter p).map val)) μ' := by
  rw [evE, hi, Res.bind_ok]
  unfold itR
  rw [if_pos w.ok, Res.bind_ok]
  have e := gather_at (f := fun x acc μ => stepL cf elt tg ifs vs env x acc μ) w.walks (itLen μ' src) 0 [] μ' (by have := w.len; omega)
  rw [List.drop_zero, gat_filter (p := p) (val := val) (fun a ha acc hlt => ?_) (by simpa using hl)] at e
  · have e2 : gather (fun x acc μ => (Res.opt (assT tg x (wipeE env vs)) μ).bind fun env' μ => (evIf cf ifs env' μ).bind fun t μ => if t = true then (evE cf elt env' μ).bind (snocL acc) else .ok acc μ) src (itLen μ' src) 0 [] μ' = .ok ([] ++ (l.filter p).map val) μ' := e
    rw [e2]
    simp
  · obtain ⟨env', h1, h2, h3⟩ := hs a ha
    unfold stepL
    rw [h1, Res.opt_some, Res.bind_ok, h2, Res.bind_ok]
    by_cases hp : p a = true
    · rw [if_pos hp, if_pos hp, h3 hp, Res.bind_ok]
      unfold snocL
      rw [if_pos hlt]
    · rw [if_neg hp, if_neg hp]
theorem comp_map {α : Type} {elt : E} {tg : Tg} {itE : E} {vs : List Nat} {src : PV} {l : List α} {it val : α → PV} (hi : evE cf itE env μ = .ok src μ') (w : Wk μ' src (l.map it))
    (hs : ∀ a ∈ l, ∃ env', assT tg (it a) (wipeE env vs) = some env' ∧ evE cf elt env' μ' = .ok (val a) μ') (hl : l.length ≤ SZ) :
    evE cf (.comp elt tg itE none vs) env μ = .ok (.lv (l.map val)) μ' := by
  have z := comp_filter (p := fun _ => true) (val := val) hi w (fun a ha => by
    obtain ⟨env', h1, h2⟩ := hs a ha
    exact ⟨env', h1, by rw [evIf], fun _ => h2⟩) hl
  rw [z, show (l.filter fun _ => true) = l from List.filter_eq_self.mpr fun _ _ => rfl]
end
end OL
end
section
set_option Elab.async false
set_option linter.all false
set_option maxRecDepth 100000
set_option maxHeartbeats 1000000
/-! OM, part u: values that are plain data. -/
namespace OL
open PySem
mutual
/-- the data -/
def pd : PV → PyData
  | .non => .none
  | .bl b => .bool b
  | .int i => .int i
  | .str s => .str s
  | .tup l => .tuple (pds l)
  | .lv l => .list (pds l)
  | _ => .none
def pds : List PV → List PyData
  | [] => []
  | v :: r => pd v :: pds r
end
mutual
/-- plain data, n deep at most -/
def pu : Nat → PV → Bool
  | _, .non => true
  | _, .bl _ => true
  | _, .int _ => true
  | _, .str s => PyData.canLay0 (.str s)
  | n + 1, .tup l => pus n l
  | n + 1, .lv l => pus n l
  | _, _ => false
def pus : Nat → List PV → Bool
  | _, [] => true
  | n, v :: r => pu n v && pus n r
end
theorem pds_map : ∀ l : List PV, pds l = l.map pd
  | [] => by rw [pds]; rfl
  | v :: r => by rw [pds, pds_map r]; rfl
theorem pus_all : ∀ {n : Nat} {l : List PV}, pus n l = true ↔ ∀ v ∈ l, pu n v = true
  | n, [] => by rw [pus]; simp
  | n, v :: r => by rw [pus, Bool.and_eq_true, pus_all]; simp
mutual
theorem datS_pu {f : Nat → Option PyData} : ∀ {n : Nat} {v : PV}, pu n v = true → datS f v = some (pd v)
  | n, .non, h => by rw [datS, pd]
  | n, .bl b, h => by rw [datS, pd]
  | n, .int i, h => by rw [datS, pd]
  | n, .str s, h => by rw [datS, pd]
  | n + 1, .tup l, h => by
    rw [pu] at h
    rw [datS, pd, datsS_pu h]
    rfl
  | n + 1, .lv l, h => by
    rw [pu] at h
    rw [datS, pd, datsS_pu h]
    rfl
  | 0, .tup l, h => by simp [pu] at h
  | 0, .lv l, h => by simp [pu] at h
  | _, .dv _ _, h => by simp [pu] at h
  | _, .ref _, h => by simp [pu] at h
  | _, .fn _, h => by simp [pu] at h
  | _, .exc _ _, h => by simp [pu] at h
  | _, .clo _ _, h => by simp [pu] at h
  | _, .sc _, h => by simp [pu] at h
  | _, .rg _ _ _, h => by simp [pu] at h
  | _, .enu _ _, h => by simp [pu] at h
  | _, .own _, h => by simp [pu] at h
theorem datsS_pu {f : Nat → Option PyData} : ∀ {n : Nat} {l : List PV}, pus n l = true → datsS f l = some (pds l)
  | n, [], h => by rw [datsS, pds]
  | n, v :: r, h => by
    rw [pus, Bool.and_eq_true] at h
    rw [datsS, pds, datS_pu h.1, datsS_pu h.2]
end
mutual
theorem lay_pu : ∀ {n : Nat} {v : PV}, pu n v = true → (pd v).canLay0 = true ∧ (pd v).depth ≤ n
  | n, .non, h => by rw [pd]; exact ⟨rfl, Nat.zero_le _⟩
  | n, .bl b, h => by rw [pd]; exact ⟨rfl, Nat.zero_le _⟩
  | n, .int i, h => by rw [pd]; exact ⟨rfl, Nat.zero_le _⟩
  | n, .str s, h => by
    rw [pu] at h
    rw [pd]
    exact ⟨h, Nat.zero_le _⟩
  | n + 1, .tup l, h => by
    rw [pu] at h
    obtain ⟨h1, h2⟩ := lays_pu h
    rw [pd]
    exact ⟨by simpa [PyData.canLay0] using h1, by rw [PyData.depth]; omega⟩
  | n + 1, .lv l, h => by
    rw [pu] at h
    obtain ⟨h1, h2⟩ := lays_pu h
    rw [pd]
    exact ⟨by simpa [PyData.canLay0] using h1, by rw [PyData.depth]; omega⟩
  | 0, .tup l, h => by simp [pu] at h
  | 0, .lv l, h => by simp [pu] at h
  | _, .dv _ _, h => by simp [pu] at h
  | _, .ref _, h => by simp [pu] at h
  | _, .fn _, h => by simp [pu] at h
  | _, .exc _ _, h => by simp [pu] at h
  | _, .clo _ _, h => by simp [pu] at h
  | _, .sc _, h => by simp [pu] at h
  | _, .rg _ _ _, h => by simp [pu] at h
  | _, .enu _ _, h => by simp [pu] at h
  | _, .own _, h => by simp [pu] at h
theorem lays_pu : ∀ {n : Nat} {l : List PV}, pus n l = true → PyData.canLayAll0 (pds l) = true ∧ PyData.depthAll (pds l) ≤ n
  | n, [], h => by rw [pds]; exact ⟨rfl, Nat.zero_le _⟩
  | n, v :: r, h => by
    rw [pus, Bool.and_eq_true] at h
    obtain ⟨a1, a2⟩ := lay_pu h.1
    obtain ⟨b1, b2⟩ := lays_pu h.2
    rw [pds]
    exact ⟨by rw [PyData.canLayAll0, a1, b1]; rfl, by rw [PyData.depthAll]; omega⟩
end
theorem shaped_pu {n : Nat} {v : PV} (h : pu n v = true) (hn : n ≤ 64) : SeqAt.shaped (pd v) = true := by
  obtain ⟨h1, h2⟩ := lay_pu h
  unfold SeqAt.shaped
  rw [h1, decide_eq_true (show (pd v).depth ≤ 64 by omega)]
  rfl
theorem datM_pu {n : Nat} {v : PV} (h : pu n v = true) (μ : Sto) : datM μ v = some (pd v) := datS_pu h
theorem eqM_pu {n m : Nat} {a b : PV} (ha : pu n a = true) (hb : pu m b = true) (hn : n ≤ 64) (hm : m ≤ 64) (μ : Sto) : eqM μ a b = some (PyData.eqv (pd a) (pd b)) := by
  unfold eqM
  rw [datM_pu ha, datM_pu hb]
  simp only
  rw [if_pos ⟨shaped_pu ha hn, shaped_pu hb hm⟩]
theorem memM_pu {n m : Nat} {x : PV} {l : List PV} (hx : pu n x = true) (hl : pus m l = true) (hn : n ≤ 64) (μ : Sto) : (datM μ x).bind (fun d => memM μ d l) = some (l.any fun y => PyData.eqv (pd y) (pd x)) := by
  rw [datM_pu hx]
  unfold memM
  rw [Option.bind_some, datsS_pu hl]
  simp only
  rw [if_pos ⟨shaped_pu hx hn, (lays_pu hl).1⟩, pds_map]
  simp [List.any_map]
  rfl
theorem inM_tup {n m : Nat} {x : PV} {l : List PV} (hx : pu n x = true) (hl : pus m l = true) (hn : n ≤ 64) (μ : Sto) : inM μ x (.tup l) = some (l.any fun y => PyData.eqv (pd y) (pd x)) := by
  unfold inM
  exact memM_pu hx hl hn μ
theorem inM_lv {n m : Nat} {x : PV} {l : List PV} (hx : pu n x = true) (hl : pus m l = true) (hn : n ≤ 64) (μ : Sto) : inM μ x (.lv l) = some (l.any fun y => PyData.eqv (pd y) (pd x)) := by
  unfold inM
  exact memM_pu hx hl hn μ
end OL
end
section
set_option Elab.async false
set_option linter.all false
set_option maxRecDepth 100000
set_option maxHeartbeats 1000000
/-! OM, part v: sorted rows of like tuples. -/
namespace OL
open PySem
/-- what an item's part is: a whole number, a bool, a text, a tuple of whole numbers -/
inductive Sh where | i | b | s | t
  deriving DecidableEq
def intB : PV → Bool
  | .int _ => true
  | _ => false
def shB : Sh → PV → Bool
  | .i, .int _ => true
  | .b, .bl _ => true
  | .s, .str x => PyData.canLay0 (.str x)
  | .t, .tup l => l.all intB
  | _, _ => false
def shL : List Sh → List PV → Bool
  | [], [] => true
  | s :: ss, v :: vs => shB s v && shL ss vs
  | _, _ => false
/-- a tuple of such parts -/
def shT (ss : List Sh) : PV → Bool
  | .tup l => shL ss l
  | _ => false
theorem int_pu {n : Nat} {v : PV} (h : intB v = true) : pu n v = true := by
  cases v <;> first | (simp [intB] at h; done) | skip
  cases n <;> rw [pu]
theorem ints_pu {n : Nat} {l : List PV} (h : l.all intB = true) : pus n l = true := pus_all.mpr fun v hv => int_pu (List.all_eq_true.mp h v hv)
theorem sh_pu {s : Sh} {v : PV} (h : shB s v = true) : pu 1 v = true := by
  cases s <;> cases v <;> first | (simp [shB] at h; done) | skip
  · rw [pu]
  · rw [pu]
  · rw [pu]; exact h
  · rw [pu]; exact ints_pu h
theorem shL_pu : ∀ {ss : List Sh} {l : List PV}, shL ss l = true → pus 1 l = true
  | [], [], h => by rw [pus]
  | s :: ss, v :: vs, h => by
    rw [shL, Bool.and_eq_true] at h
    rw [pus, sh_pu h.1, shL_pu h.2]
    rfl
  | [], _ :: _, h => by simp [shL] at h
  | _ :: _, [], h => by simp [shL] at h
theorem shT_pu {ss : List Sh} {v : PV} (h : shT ss v = true) : pu 2 v = true := by
  cases v <;> first | (simp [shT] at h; done) | skip
  rw [pu]
  exact shL_pu h
theorem int_alike {v w : PV} (h : intB v = true) (h2 : intB w = true) : PySem.W.alike (pd v) (pd w) = true := by
  cases v <;> first | (simp [intB] at h; done) | skip
  cases w <;> first | (simp [intB] at h2; done) | skip
  rw [pd, pd]
  rfl
theorem ints_alike : ∀ {l r : List PV}, l.all intB = true → r.all intB = true → PySem.W.alikeAll (pds l) (pds r) = true
  | [], r, _, _ => by rw [pds]; cases pds r <;> rfl
  | v :: l, [], _, _ => by rw [pds, pds]; rfl
  | v :: l, w :: r, h, h2 => by
    simp only [List.all_cons, Bool.and_eq_true] at h h2
    rw [pds, pds, PySem.W.alikeAll, int_alike h.1 h2.1, ints_alike h.2 h2.2]
    rfl
theorem sh_alike {s : Sh} {v w : PV} (h : shB s v = true) (h2 : shB s w = true) : PySem.W.alike (pd v) (pd w) = true := by
  cases s <;> cases v <;> first | (simp [shB] at h; done) | skip
  all_goals cases w <;> first | (simp [shB] at h2; done) | skip
  · rw [pd, pd]; rfl
  · rw [pd, pd]; rfl
  · rw [pd, pd]; rfl
  · rw [pd, pd]
    exact ints_alike h h2
theorem shL_alike : ∀ {ss : List Sh} {l r : List PV}, shL ss l = true → shL ss r = true → PySem.W.alikeAll (pds l) (pds r) = true
  | [], [], [], _, _ => by rw [pds]; rfl
  | s :: ss, v :: l, w :: r, h, h2 => by
    rw [shL, Bool.and_eq_true] at h h2
    rw [pds, pds, PySem.W.alikeAll, sh_alike h.1 h2.1, shL_alike h.2 h2.2]
    rfl
  | [], _ :: _, _, h, _ => by simp [shL] at h
  | _ :: _, [], _, h, _ => by simp [shL] at h
  | [], [], _ :: _, _, h => by simp [shL] at h
  | _ :: _, _ :: _, [], _, h => by simp [shL] at h
theorem shT_alike {ss : List Sh} {v w : PV} (h : shT ss v = true) (h2 : shT ss w = true) : PySem.W.alike (pd v) (pd w) = true := by
  cases v <;> first | (simp [shT] at h; done) | skip
  cases w <;> first | (simp [shT] at h2; done) | skip
  rw [pd, pd]
  exact shL_alike h h2
/-- a row: like tuples that are not empty -/
def Row (s : Sh) (ss : List Sh) (l : List PV) : Prop := ∀ v ∈ l, shT (s :: ss) v = true
theorem Row.pus {s : Sh} {ss : List Sh} {l : List PV} (h : Row s ss l) : pus 2 l = true := pus_all.mpr fun v hv => shT_pu (h v hv)
theorem Row.sortOk {s : Sh} {ss : List Sh} {l : List PV} (h : Row s ss l) : OL.sortOk (pds l) = true := by
  have hm : ∀ d ∈ pds l, ∃ v ∈ l, d = pd v := fun d hd => by
    rw [pds_map] at hd
    obtain ⟨v, hv, e⟩ := List.mem_map.mp hd
    exact ⟨v, hv, e.symm⟩
  unfold OL.sortOk
  simp only [Bool.and_eq_true, Bool.or_eq_true]
  refine ⟨⟨List.all_eq_true.mpr fun d hd => List.all_eq_true.mpr fun e he => ?_, List.all_eq_true.mpr fun d hd => ?_⟩, .inl (List.all_eq_true.mpr fun d hd => ?_)⟩
  · obtain ⟨v, hv, rfl⟩ := hm d hd
    obtain ⟨w, hw, rfl⟩ := hm e he
    exact shT_alike (h v hv) (h w hw)
  · obtain ⟨v, hv, rfl⟩ := hm d hd
    have := (lay_pu (shT_pu (h v hv))).2
    exact decide_eq_true (by omega)
  · obtain ⟨v, hv, rfl⟩ := hm d hd
    have q := h v hv
    cases v <;> first | (simp [shT] at q; done) | skip
    rename_i l'
    cases l' with
    | nil => simp [shT, shL] at q
    | cons a r => rw [pd, pds]
/-- a row, sorted -/
def srt (l : List PV) : List PV := ((l.zip (pds l)).mergeSort (PySem.W.dataLe false (·.2))).map (·.1)
theorem srt_mem {l : List PV} {v : PV} : v ∈ srt l ↔ v ∈ l := by
  unfold srt
  rw [List.mem_map]
  constructor
  · rintro ⟨p, hp, rfl⟩
    rw [List.mem_mergeSort] at hp
    exact (List.of_mem_zip hp).1
  · intro h
    obtain ⟨i, hi⟩ := List.mem_iff_getElem?.mp h
    refine ⟨(v, pd v), List.mem_mergeSort.mpr (List.mem_iff_getElem?.mpr ⟨i, ?_⟩), rfl⟩
    rw [List.getElem?_zip_eq_some]
    exact ⟨hi, by rw [pds_map, List.getElem?_map, hi]; rfl⟩
theorem srt_length (l : List PV) : (srt l).length = l.length := by
  unfold srt
  rw [List.length_map, List.length_mergeSort, List.length_zip, pds_map, List.length_map, Nat.min_self]
theorem sortedM_row {s : Sh} {ss : List Sh} {l : List PV} (h : Row s ss l) (μ : Sto) : sortedM μ l = some (srt l) := by
  rw [sortedM_def]
  rw [datsS_pu h.pus, Option.bind_some, if_pos h.sortOk]
  rfl
/-- a row with one more -/
def putRow (l : List PV) (x : PV) : List PV := if (l.any fun y => PyData.eqv (pd y) (pd x)) = true then l else srt (l ++ [x])
theorem putRow_row {s : Sh} {ss : List Sh} {l : List PV} {x : PV} (h : Row s ss l) (hx : shT (s :: ss) x = true) : Row s ss (putRow l x) := by
  unfold putRow
  split
  · exact h
  · intro v hv
    rcases List.mem_append.mp (srt_mem.mp hv) with hv | hv
    · exact h v hv
    · rw [List.mem_singleton.mp hv]; exact hx
theorem putRow_length {l : List PV} {x : PV} : (putRow l x).length ≤ l.length + 1 := by
  unfold putRow
  split
  · omega
  · rw [srt_length]; simp
theorem row_snoc {s : Sh} {ss : List Sh} {l : List PV} {x : PV} (h : Row s ss l) (hx : shT (s :: ss) x = true) : Row s ss (l ++ [x]) := fun v hv => by
  rcases List.mem_append.mp hv with hv | hv
  · exact h v hv
  · rw [List.mem_singleton.mp hv]; exact hx
end OL
end
section
set_option Elab.async false
set_option linter.all false
set_option maxRecDepth 100000
set_option maxHeartbeats 2000000
/-! OM, part w: deeper calls say the same. -/
namespace OL
open PySem
structure Le (c c' : CF) : Prop where
  call : ∀ f l μ, c.call f l μ ≠ .err → c'.call f l μ = c.call f l μ
  clo : ∀ k cs l μ, c.clo k cs l μ ≠ .err → c'.clo k cs l μ = c.clo k cs l μ
  glo : ∀ n, c'.glo n = c.glo n
  fuel : c'.fuel = c.fuel
  sub : ∀ a b, c'.sub a b = c.sub a b
theorem bind_mono {α β : Type} {r r' : Res α} {f f' : α → Sto → Res β} (hn : r.bind f ≠ .err) (h : r ≠ .err → r' = r) (g : ∀ a m, f a m ≠ .err → f' a m = f a m) : r'.bind f' = r.bind f := by
  cases r with
  | ok a m => rw [h (fun z => by cases z)]; exact g a m hn
  | exc c fs m => rw [h (fun z => by cases z)]; rfl
  | err => exact absurd rfl hn
theorem thn_mono {α : Type} {r r' : Res α} {env : Env} {f f' : α → Sto → Out} (hn : r.thn env f ≠ .err) (h : r ≠ .err → r' = r) (g : ∀ a m, f a m ≠ .err → f' a m = f a m) : r'.thn env f' = r.thn env f := by
  cases r with
  | ok a m => rw [h (fun z => by cases z)]; exact g a m hn
  | exc c fs m => rw [h (fun z => by cases z)]; rfl
  | err => exact absurd rfl hn
theorem seq_mono {r r' : Out} {f f' : Env → Sto → Out} (hn : r.seq f ≠ .err) (h : r ≠ .err → r' = r) (g : ∀ a m, f a m ≠ .err → f' a m = f a m) : r'.seq f' = r.seq f := by
  cases r with
  | ok fl a m =>
    rw [h (fun z => by cases z)]
    cases fl <;> first | exact g a m hn | rfl
  | exc c fs a m => rw [h (fun z => by cases z)]; rfl
  | err => exact absurd rfl hn
theorem calm_mono {α : Type} {r r' : Res α} (hn : r.calm ≠ .err) (h : r ≠ .err → r' = r) : r'.calm = r.calm := by
  cases r with
  | ok a m => rw [h (fun z => by cases z)]
  | exc c fs m => exact absurd rfl hn
  | err => exact absurd rfl hn
theorem gather_mono {α : Type} {f f' : PV → α → Sto → Res α} (g : ∀ x a m, f x a m ≠ .err → f' x a m = f x a m) {v : PV} : ∀ (n k : Nat) (a : α) (μ : Sto), gather f v n k a μ ≠ .err → gather f' v n k a μ = gather f v n k a μ
  | n, k, a, μ, hn => by
    unfold gather at hn ⊢
    cases e : itAt μ v k with
    | none => rfl
    | some o =>
      rw [e] at hn
      cases o with
      | none => rfl
      | some x =>
        cases n with
        | zero => rfl
        | succ n => exact bind_mono hn (g x a μ) fun b m hb => gather_mono g n (k + 1) b m hb
theorem forF_mono {asn : PV → Env → Option Env} {b b' : Env → Sto → Out} (g : ∀ env m, b env m ≠ .err → b' env m = b env m) {v : PV} : ∀ (n k : Nat) (env : Env) (μ : Sto), forF asn b v n k env μ ≠ .err → forF asn b' v n k env μ = forF asn b v n k env μ
  | n, k, env, μ, hn => by
    unfold forF at hn ⊢
    cases e : itAt μ v k with
    | none => rfl
    | some o =>
      rw [e] at hn
      cases o with
      | none => rfl
      | some x =>
        cases n with
        | zero => rfl
        | succ n =>
          simp only at hn ⊢
          cases ea : asn x env with
          | none => rfl
          | some env2 =>
            rw [ea] at hn
            simp only at hn ⊢
            cases eb : b env2 μ with
            | err => rw [eb] at hn; exact absurd rfl hn
            | exc c fs en m => rw [g env2 μ (by rw [eb]; intro z; cases z), eb]
            | ok fl en m =>
              rw [g env2 μ (by rw [eb]; intro z; cases z), eb]
              rw [eb] at hn
              cases fl <;> first | exact forF_mono g n (k + 1) en m hn | rfl
theorem whlF_mono {t t' : Env → Sto → Res Bool} {b b' : Env → Sto → Out} (ht : ∀ env m, t env m ≠ .err → t' env m = t env m) (g : ∀ env m, b env m ≠ .err → b' env m = b env m) : ∀ (n : Nat) (env : Env) (μ : Sto), whlF t b n env μ ≠ .err → whlF t' b' n env μ = whlF t b n env μ
  | 0, env, μ, hn => rfl
  | n + 1, env, μ, hn => by
    unfold whlF at hn ⊢
    refine thn_mono hn (ht env μ) fun c m hc => ?_
    cases c with
    | false => rfl
    | true =>
      rw [if_pos rfl] at hc
      rw [if_pos rfl, if_pos rfl]
      cases eb : b env m with
      | err => rw [eb] at hc; exact absurd rfl hc
      | exc c fs en m2 => rw [g env m (by rw [eb]; intro z; cases z), eb]
      | ok fl en m2 =>
        rw [g env m (by rw [eb]; intro z; cases z), eb]
        rw [eb] at hc
        cases fl <;> first | exact whlF_mono ht g n en m2 hc | rfl
theorem ite_mono {α : Type} {c : Prop} [Decidable c] {e a a' b b' : α} (hn : (if c then a else b) ≠ e) (h : a ≠ e → a' = a) (g : b ≠ e → b' = b) : (if c then a' else b') = if c then a else b := by
  by_cases hc : c
  · rw [if_pos hc] at hn
    rw [if_pos hc, if_pos hc, h hn]
  · rw [if_neg hc] at hn
    rw [if_neg hc, if_neg hc, g hn]
section
variable {c c' : CF} (h : Le c c')
include h
mutual
theorem ev_mono : ∀ (e : E) (env : Env) (μ : Sto), evE c e env μ ≠ .err → evE c' e env μ = evE c e env μ
  | .con v, env, μ, hn => by rw [evE, evE]
  | .var i, env, μ, hn => by rw [evE, evE]
  | .own i, env, μ, hn => by rw [evE, evE]
  | .glo n, env, μ, hn => by rw [evE, evE, h.glo]
  | .bin o a b, env, μ, hn => by
    rw [evE] at hn ⊢
    rw [evE]
    exact bind_mono hn (ev_mono a env μ) fun x m hx => bind_mono hx (ev_mono b env m) fun y m _ => rfl
  | .neg a, env, μ, hn => by
    rw [evE] at hn ⊢
    rw [evE]
    exact bind_mono hn (ev_mono a env μ) fun x m hx => rfl
  | .not a, env, μ, hn => by
    rw [evE] at hn ⊢
    rw [evE]
    exact bind_mono hn (ev_mono a env μ) fun x m hx => rfl
  | .and a b, env, μ, hn => by
    rw [evE] at hn ⊢
    rw [evE]
    exact bind_mono hn (ev_mono a env μ) fun x m hx => bind_mono hx (fun _ => rfl) fun t m ht => ite_mono ht (ev_mono b env m) fun _ => rfl
  | .or a b, env, μ, hn => by
    rw [evE] at hn ⊢
    rw [evE]
    exact bind_mono hn (ev_mono a env μ) fun x m hx => bind_mono hx (fun _ => rfl) fun t m ht => ite_mono ht (fun _ => rfl) (ev_mono b env m)
  | .ife t a b, env, μ, hn => by
    rw [evE] at hn ⊢
    rw [evE]
    exact bind_mono hn (ev_mono t env μ) fun x m hx => bind_mono hx (fun _ => rfl) fun t m ht => ite_mono ht (ev_mono a env m) (ev_mono b env m)
  | .cmp o a b, env, μ, hn => by
    rw [evE] at hn ⊢
    rw [evE]
    exact bind_mono hn (ev_mono a env μ) fun x m hx => bind_mono hx (ev_mono b env m) fun y m _ => rfl
  | .chn o p a b d, env, μ, hn => by
    rw [evE] at hn ⊢
    rw [evE]
    exact bind_mono hn (ev_mono a env μ) fun x m hx => bind_mono hx (ev_mono b env m) fun y m hy => bind_mono hy (fun _ => rfl) fun t m ht => ite_mono ht (fun hz => bind_mono hz (ev_mono d env m) fun z m _ => rfl) fun _ => rfl
  | .tup l, env, μ, hn => by
    rw [evE] at hn ⊢
    rw [evE]
    exact bind_mono hn (evs_mono l env μ) fun x m hx => rfl
  | .lst l, env, μ, hn => by
    rw [evE] at hn ⊢
    rw [evE]
    exact bind_mono hn (evs_mono l env μ) fun x m hx => rfl
  | .dic l, env, μ, hn => by
    rw [evE] at hn ⊢
    rw [evE]
    exact bind_mono hn (evs_mono l env μ) fun x m hx => rfl
  | .box e, env, μ, hn => by
    rw [evE] at hn ⊢
    rw [evE]
    exact bind_mono hn (ev_mono e env μ) fun x m hx => rfl
  | .idx a i, env, μ, hn => by
    rw [evE] at hn ⊢
    rw [evE]
    exact bind_mono hn (ev_mono a env μ) fun x m hx => bind_mono hx (ev_mono i env m) fun y m _ => rfl
  | .slc a lo hi, env, μ, hn => by
    rw [evE] at hn ⊢
    rw [evE]
    exact bind_mono hn (ev_mono a env μ) fun x m hx => bind_mono hx (evo_mono lo env m) fun y m hy => bind_mono hy (evo_mono hi env m) fun z m _ => rfl
  | .isi a t, env, μ, hn => by
    rw [evE] at hn ⊢
    rw [evE]
    exact bind_mono hn (ev_mono a env μ) fun x m hx => rfl
  | .call f l, env, μ, hn => by
    rw [evE] at hn ⊢
    rw [evE]
    exact bind_mono hn (evs_mono l env μ) fun x m hx => bind_mono hx (h.call f x m) fun y m _ => rfl
  | .calo f l, env, μ, hn => by
    rw [evE] at hn ⊢
    rw [evE]
    exact bind_mono hn (evs_mono l env μ) fun x m hx => bind_mono hx (h.call f x m) fun y m _ => rfl
  | .cav i l, env, μ, hn => by
    rw [evE] at hn ⊢
    rw [evE]
    refine bind_mono hn (fun _ => rfl) fun f m hf => bind_mono hf (evs_mono l env m) fun x m hx => ?_
    cases f with
    | fn g => exact bind_mono hx (h.call g x m) fun y m _ => rfl
    | clo k cs => exact bind_mono hx (h.clo k cs x m) fun y m _ => rfl
    | _ => rfl
  | .blt b l, env, μ, hn => by
    rw [evE] at hn ⊢
    rw [evE]
    exact bind_mono hn (evs_mono l env μ) fun x m hx => rfl
  | .met m o l, env, μ, hn => by
    rw [evE] at hn ⊢
    rw [evE]
    exact bind_mono hn (ev_mono o env μ) fun x m hx => ite_mono hx (fun hz => bind_mono hz (evs_mono l env m) fun z m _ => rfl) fun _ => rfl
  | .fld i k n, env, μ, hn => by rw [evE, evE]
  | .rng l, env, μ, hn => by
    rw [evE] at hn ⊢
    rw [evE]
    exact bind_mono hn (evs_mono l env μ) fun x m hx => rfl
  | .enu a s, env, μ, hn => by
    rw [evE] at hn ⊢
    rw [evE]
    exact bind_mono hn (ev_mono a env μ) fun x m hx => bind_mono hx (evo_mono s env m) fun y m _ => rfl
  | .comp elt tg it ifs vs, env, μ, hn => by
    rw [evE] at hn ⊢
    rw [evE]
    exact bind_mono hn (fun hz => bind_mono hz (ev_mono it env μ) fun _ _ _ => rfl) fun src m hx => bind_mono hx (fun hc => calm_mono hc fun hg => gather_mono (fun x a m hf => bind_mono hf (fun _ => rfl) fun env' m hg => bind_mono hg (evif_mono ifs env' m) fun t m ht => ite_mono ht (fun hz => bind_mono hz (ev_mono elt env' m) fun _ _ _ => rfl) fun _ => rfl) _ _ _ _ hg) fun _ _ _ => rfl
  | .com2 elt tg it ifs tg2 it2 ifs2 vs vs2, env, μ, hn => by
    rw [evE] at hn ⊢
    rw [evE]
    exact bind_mono hn (fun hz => bind_mono hz (ev_mono it env μ) fun _ _ _ => rfl) fun src m hx => bind_mono hx (fun hc => calm_mono hc fun hg => gather_mono (fun x a m hf => bind_mono hf (fun _ => rfl) fun env' m hg => bind_mono hg (evif_mono ifs env' m) fun t m ht => ite_mono ht (fun hz => bind_mono hz (fun hy => bind_mono hy (ev_mono it2 env' m) fun _ _ _ => rfl)
      fun src2 m h2 => gather_mono (fun x a m hf => bind_mono hf (fun _ => rfl) fun env2 m hg => bind_mono hg (evif_mono ifs2 env2 m) fun t m ht => ite_mono ht (fun hz => bind_mono hz (ev_mono elt env2 m) fun _ _ _ => rfl) fun _ => rfl) _ _ _ _ h2) fun _ => rfl) _ _ _ _ hg) fun _ _ _ => rfl
  | .dcm k v tg it vs, env, μ, hn => by
    rw [evE] at hn ⊢
    rw [evE]
    exact bind_mono hn (fun hz => bind_mono hz (ev_mono it env μ) fun _ _ _ => rfl) fun src m hx => bind_mono hx (fun hc => calm_mono hc fun hg => gather_mono (fun x a m hf => bind_mono hf (fun _ => rfl) fun env' m hg => bind_mono hg (ev_mono k env' m) fun t m ht => bind_mono ht (ev_mono v env' m) fun _ _ _ => rfl) _ _ _ _ hg) fun _ _ _ => rfl
theorem evs_mono : ∀ (l : List E) (env : Env) (μ : Sto), evEs c l env μ ≠ .err → evEs c' l env μ = evEs c l env μ
  | [], env, μ, hn => by rw [evEs, evEs]
  | e :: r, env, μ, hn => by
    rw [evEs] at hn ⊢
    rw [evEs]
    exact bind_mono hn (ev_mono e env μ) fun x m hx => bind_mono hx (evs_mono r env m) fun y m _ => rfl
theorem evo_mono : ∀ (o : Option E) (env : Env) (μ : Sto), evO c o env μ ≠ .err → evO c' o env μ = evO c o env μ
  | none, env, μ, hn => by rw [evO, evO]
  | some e, env, μ, hn => by
    rw [evO] at hn ⊢
    rw [evO]
    exact bind_mono hn (ev_mono e env μ) fun x m hx => rfl
theorem evif_mono : ∀ (o : Option E) (env : Env) (μ : Sto), evIf c o env μ ≠ .err → evIf c' o env μ = evIf c o env μ
  | none, env, μ, hn => by rw [evIf, evIf]
  | some e, env, μ, hn => by
    rw [evIf] at hn ⊢
    rw [evIf]
    exact bind_mono hn (ev_mono e env μ) fun x m hx => rfl
end
end
section
variable {c c' : CF} (h : Le c c')
include h
theorem trw_mono (e : E) (env : Env) (μ : Sto) (hn : (evE c e env μ).bind trR ≠ .err) : (evE c' e env μ).bind trR = (evE c e env μ).bind trR := bind_mono hn (ev_mono h e env μ) fun _ _ _ => rfl
mutual
theorem st_mono : ∀ (s : S) (env : Env) (μ : Sto), evS c s env μ ≠ .err → evS c' s env μ = evS c s env μ
  | .expr e, env, μ, hn => by
    rw [evS] at hn ⊢
    rw [evS]
    exact thn_mono hn (ev_mono h e env μ) fun _ _ _ => rfl
  | .asg t e, env, μ, hn => by
    rw [evS] at hn ⊢
    rw [evS]
    exact thn_mono hn (ev_mono h e env μ) fun _ _ _ => rfl
  | .par ts es, env, μ, hn => by
    rw [evS] at hn ⊢
    rw [evS]
    exact thn_mono hn (evs_mono h es env μ) fun _ _ _ => rfl
  | .asi o i e, env, μ, hn => by
    rw [evS] at hn ⊢
    rw [evS]
    exact thn_mono hn (ev_mono h e env μ) fun v m hv => thn_mono hv (ev_mono h o env m) fun x m hx => thn_mono hx (ev_mono h i env m) fun _ _ _ => rfl
  | .oasg i e, env, μ, hn => by
    rw [evS] at hn ⊢
    rw [evS]
    exact thn_mono hn (ev_mono h e env μ) fun _ _ _ => rfl
  | .oap i e, env, μ, hn => by
    rw [evS] at hn ⊢
    rw [evS]
    cases q : getO env i with
    | none => rfl
    | some v =>
      rw [q] at hn
      cases v <;> first | rfl | exact thn_mono hn (ev_mono h e env μ) fun _ _ _ => rfl
  | .oex i e, env, μ, hn => by
    rw [evS] at hn ⊢
    rw [evS]
    cases q : getO env i with
    | none => rfl
    | some v =>
      rw [q] at hn
      cases v <;> first | rfl | exact thn_mono hn (ev_mono h e env μ) fun _ _ _ => rfl
  | .osi i k e, env, μ, hn => by
    rw [evS] at hn ⊢
    rw [evS]
    refine thn_mono hn (ev_mono h e env μ) fun v m hv => ?_
    cases q : getO env i with
    | none => rfl
    | some x =>
      rw [q] at hv
      exact thn_mono hv (ev_mono h k env m) fun _ _ _ => rfl
  | .oag i k o e, env, μ, hn => by
    rw [evS] at hn ⊢
    rw [evS]
    exact thn_mono hn (ev_mono h k env μ) fun v m hv => thn_mono hv (fun _ => rfl) fun x m hx => thn_mono hx (ev_mono h e env m) fun _ _ _ => rfl
  | .opo t i, env, μ, hn => by rw [evS, evS]
  | .aug i o e, env, μ, hn => by
    rw [evS] at hn ⊢
    rw [evS]
    exact thn_mono hn (fun _ => rfl) fun v m hv => thn_mono hv (ev_mono h e env m) fun _ _ _ => rfl
  | .iff t a b, env, μ, hn => by
    rw [evS] at hn ⊢
    rw [evS]
    exact thn_mono hn (trw_mono h t env μ) fun v m hv => ite_mono hv (sts_mono a env m) (sts_mono b env m)
  | .whl t b, env, μ, hn => by
    rw [evS] at hn ⊢
    rw [evS, h.fuel]
    exact whlF_mono (fun env m hz => trw_mono h t env m hz) (fun env m hz => sts_mono b env m hz) _ _ _ hn
  | .forr t it b, env, μ, hn => by
    rw [evS] at hn ⊢
    rw [evS]
    exact thn_mono hn (fun hz => bind_mono hz (ev_mono h it env μ) fun _ _ _ => rfl) fun v m hv => forF_mono (fun env m hz => sts_mono b env m hz) _ _ _ _ hv
  | .ret none, env, μ, hn => by rw [evS, evS]
  | .ret (some e), env, μ, hn => by
    by_cases q : ∃ i, e = .own i
    · obtain ⟨i, rfl⟩ := q
      rw [evS, evS]
    · have q2 : ∀ i, e = .own i → False := fun i z => q ⟨i, z⟩
      rw [evS] at hn ⊢
      rw [evS]
      · exact thn_mono hn (ev_mono h e env μ) fun _ _ _ => rfl
      · exact q2
      · exact q2
      · exact q2
  | .rai k l, env, μ, hn => by
    rw [evS] at hn ⊢
    rw [evS]
    exact thn_mono hn (evs_mono h l env μ) fun _ _ _ => rfl
  | .brk, env, μ, hn => by rw [evS, evS]
  | .cnt, env, μ, hn => by rw [evS, evS]
  | .pas, env, μ, hn => by rw [evS, evS]
  | .nev, env, μ, hn => by rw [evS, evS]
  | .obx i e, env, μ, hn => by
    rw [evS] at hn ⊢
    rw [evS]
    exact thn_mono hn (ev_mono h e env μ) fun _ _ _ => rfl
  | .abx o i e, env, μ, hn => by
    rw [evS] at hn ⊢
    rw [evS]
    exact thn_mono hn (ev_mono h e env μ) fun v m hv => thn_mono hv (fun _ => rfl) fun v m hv => thn_mono hv (ev_mono h o env m) fun x m hx => thn_mono hx (ev_mono h i env m) fun _ _ _ => rfl
  | .trt b, env, μ, hn => by
    rw [evS] at hn ⊢
    rw [evS]
    have : evSs c b env μ ≠ .err := fun z => by rw [z] at hn; exact hn rfl
    rw [sts_mono b env μ this]
  | .tri b hs, env, μ, hn => by
    rw [evS] at hn ⊢
    rw [evS]
    have : evSs c b env μ ≠ .err := fun z => by rw [z] at hn; exact hn rfl
    rw [sts_mono b env μ this]
    cases q : evSs c b env μ with
    | ok fl en m => rfl
    | exc k fs en m =>
      rw [q] at hn
      exact hs_mono hs k fs en m hn
    | err => rfl
  | .hdl _ _ _, env, μ, hn => by rw [evS, evS]
theorem sts_mono : ∀ (l : List S) (env : Env) (μ : Sto), evSs c l env μ ≠ .err → evSs c' l env μ = evSs c l env μ
  | [], env, μ, hn => by rw [evSs, evSs]
  | s :: r, env, μ, hn => by
    rw [evSs] at hn ⊢
    rw [evSs]
    exact seq_mono hn (st_mono s env μ) fun env m hz => sts_mono r env m hz
theorem hs_mono : ∀ (l : List S) (k : Nat) (fs : List PV) (env : Env) (μ : Sto), evHs c l k fs env μ ≠ .err → evHs c' l k fs env μ = evHs c l k fs env μ
  | [], k, fs, env, μ, hn => by rw [evHs, evHs]
  | s :: r, k, fs, env, μ, hn => by
    rw [evHs] at hn ⊢
    rw [evHs]
    exact hd_mono s k fs env μ _ _ (fun z => hs_mono r k fs env μ z) hn
theorem hd_mono : ∀ (s : S) (k : Nat) (fs : List PV) (env : Env) (μ : Sto) (no no' : Out), (no ≠ .err → no' = no) → evH c s k fs env μ no ≠ .err → evH c' s k fs env μ no' = evH c s k fs env μ no
  | .hdl cs i b, k, fs, env, μ, no, no', hno, hn => by
    unfold evH at hn ⊢
    have es : (cs.any (c'.sub k)) = cs.any (c.sub k) := by
      have : c'.sub k = c.sub k := funext fun a => h.sub k a
      rw [this]
    rw [es]
    refine ite_mono hn (fun hz => ?_) hno
    cases i with
    | none =>
      have : evSs c b env μ ≠ .err := fun z => by
        have hz : (evSs c b env μ).calm ≠ .err := hz
        rw [z] at hz
        exact hz rfl
      show (evSs c' b env μ).calm = (evSs c b env μ).calm
      rw [sts_mono b env μ this]
    | some i =>
      have : evSs c b (env.set i (some (.exc k fs))) μ ≠ .err := fun z => by
        have hz : (evSs c b (env.set i (some (.exc k fs))) μ).gone i ≠ .err := hz
        rw [z] at hz
        exact hz rfl
      show (evSs c' b (env.set i (some (.exc k fs))) μ).gone i = (evSs c b (env.set i (some (.exc k fs))) μ).gone i
      rw [sts_mono b _ μ this]
  | .expr _, _, _, _, _, _, _, _, _ => rfl
  | .asg _ _, _, _, _, _, _, _, _, _ => rfl
  | .par _ _, _, _, _, _, _, _, _, _ => rfl
  | .asi _ _ _, _, _, _, _, _, _, _, _ => rfl
  | .oasg _ _, _, _, _, _, _, _, _, _ => rfl
  | .oap _ _, _, _, _, _, _, _, _, _ => rfl
  | .oex _ _, _, _, _, _, _, _, _, _ => rfl
  | .osi _ _ _, _, _, _, _, _, _, _, _ => rfl
  | .oag _ _ _ _, _, _, _, _, _, _, _, _ => rfl
  | .opo _ _, _, _, _, _, _, _, _, _ => rfl
  | .aug _ _ _, _, _, _, _, _, _, _, _ => rfl
  | .iff _ _ _, _, _, _, _, _, _, _, _ => rfl
  | .whl _ _, _, _, _, _, _, _, _, _ => rfl
  | .forr _ _ _, _, _, _, _, _, _, _, _ => rfl
  | .ret _, _, _, _, _, _, _, _, _ => rfl
  | .rai _ _, _, _, _, _, _, _, _, _ => rfl
  | .brk, _, _, _, _, _, _, _, _ => rfl
  | .cnt, _, _, _, _, _, _, _, _ => rfl
  | .pas, _, _, _, _, _, _, _, _ => rfl
  | .nev, _, _, _, _, _, _, _, _ => rfl
  | .obx _ _, _, _, _, _, _, _, _, _ => rfl
  | .abx _ _ _, _, _, _, _, _, _, _, _ => rfl
  | .trt _, _, _, _, _, _, _, _, _ => rfl
  | .tri _ _, _, _, _, _, _, _, _, _ => rfl
end
end
theorem outR_mono {r r' : Out} (hn : outR r ≠ .err) (h : r ≠ .err → r' = r) : outR r' = outR r := by rw [h fun z => by rw [z] at hn; exact hn rfl]
/-- one deeper -/
theorem cfN_le (P : Prog) : ∀ d, Le (cfN P d) (cfN P (d + 1))
  | 0 => ⟨fun f l μ hn => absurd rfl hn, fun k cs l μ hn => absurd rfl hn, fun _ => rfl, rfl, fun _ _ => rfl⟩
  | d + 1 => by
    have ih := cfN_le P d
    refine ⟨fun f l μ hn => ?_, fun k cs l μ hn => ?_, fun _ => rfl, rfl, fun _ _ => rfl⟩
    · have e : ∀ d, (cfN P (d + 1)).call f l μ = (match P.funs[f]? with
        | some D => if l.length = D.npar then outR (evSs (cfN P d) D.body (entry D.nslot l) μ) else .err
        | none => .err) := fun d => rfl
      rw [e] at hn ⊢
      rw [e]
      cases q : P.funs[f]? with
      | none => rfl
      | some D =>
        rw [q] at hn
        exact ite_mono hn (fun hz => outR_mono hz fun z => sts_mono ih _ _ _ z) fun _ => rfl
    · have e : ∀ d, (cfN P (d + 1)).clo k cs l μ = (match P.lams[k]? with
        | some L => if l.length = L.npar then evE (cfN P d) L.body (entry 0 (l ++ cs)) μ else .err
        | none => .err) := fun d => rfl
      rw [e] at hn ⊢
      rw [e]
      cases q : P.lams[k]? with
      | none => rfl
      | some D =>
        rw [q] at hn
        exact ite_mono hn (fun hz => ev_mono ih _ _ _ hz) fun _ => rfl
theorem call_deeper {P : Prog} {f : Nat} {l : List PV} {μ : Sto} {r : Res PV} {d : Nat} (h : (cfN P d).call f l μ = r) (hr : r ≠ .err) : ∀ {n : Nat}, d ≤ n → (cfN P n).call f l μ = r
  | n, hn => by
    obtain ⟨k, rfl⟩ := Nat.le.dest hn
    clear hn
    induction k with
    | zero => exact h
    | succ k ih => rw [show d + (k + 1) = (d + k) + 1 from rfl, (cfN_le P (d + k)).call f l μ (by rw [ih]; exact hr), ih]
theorem ev_deeper {P : Prog} {e : E} {env : Env} {μ : Sto} {r : Res PV} {d : Nat} (h : evE (cfN P d) e env μ = r) (hr : r ≠ .err) : ∀ {n : Nat}, d ≤ n → evE (cfN P n) e env μ = r
  | n, hn => by
    obtain ⟨k, rfl⟩ := Nat.le.dest hn
    clear hn
    induction k with
    | zero => exact h
    | succ k ih => rw [show d + (k + 1) = (d + k) + 1 from rfl, ev_mono (cfN_le P (d + k)) e env μ (by rw [ih]; exact hr), ih]
theorem st_deeper {P : Prog} {s : S} {env : Env} {μ : Sto} {r : Out} {d : Nat} (h : evS (cfN P d) s env μ = r) (hr : r ≠ .err) : ∀ {n : Nat}, d ≤ n → evS (cfN P n) s env μ = r
  | n, hn => by
    obtain ⟨k, rfl⟩ := Nat.le.dest hn
    clear hn
    induction k with
    | zero => exact h
    | succ k ih => rw [show d + (k + 1) = (d + k) + 1 from rfl, st_mono (cfN_le P (d + k)) s env μ (by rw [ih]; exact hr), ih]
end OL
end
section
set_option Elab.async false
set_option linter.all false
set_option maxRecDepth 100000
/-! OM, part y: the boxes' few states. -/
namespace OL
/-- an outbox: known, next, lost, limit -/
structure OS where
  k : Nat
  n : Nat
  lost : List Nat
  lim : Nat
  deriving DecidableEq
/-- an inbox: read, held, stop, granted -/
structure IS where
  rd : Nat
  held : List Nat
  stop : Option Nat
  gr : Nat
  deriving DecidableEq
def outs : Nat → List OS
  | 0 => [⟨0, 0, [], 0⟩, ⟨0, 0, [], 1⟩, ⟨0, 0, [], 2⟩, ⟨0, 1, [], 0⟩, ⟨0, 1, [], 1⟩, ⟨0, 1, [], 2⟩, ⟨0, 1, [0], 0⟩, ⟨0, 1, [0], 1⟩, ⟨0, 1, [0], 2⟩, ⟨1, 1, [], 0⟩, ⟨1, 1, [], 1⟩, ⟨1, 1, [], 2⟩]
  | 1 => [⟨0, 0, [], 0⟩, ⟨0, 0, [], 1⟩, ⟨0, 0, [], 2⟩, ⟨0, 0, [], 3⟩, ⟨0, 1, [], 1⟩, ⟨0, 1, [], 2⟩, ⟨0, 1, [], 3⟩, ⟨0, 1, [0], 1⟩, ⟨0, 1, [0], 2⟩, ⟨0, 1, [0], 3⟩, ⟨0, 2, [], 1⟩, ⟨0, 2, [], 2⟩, ⟨0, 2, [], 3⟩, ⟨0, 2, [0, 1], 1⟩, ⟨0, 2, [0, 1], 2⟩, ⟨0, 2, [0, 1], 3⟩, ⟨0, 2, [1], 1⟩, ⟨0, 2, [1], 2⟩, ⟨0, 2, [1], 3⟩, ⟨1, 1, [], 1⟩, ⟨1, 1, [], 2⟩, ⟨1, 1, [], 3⟩, ⟨1, 2, [], 1⟩, ⟨1, 2, [], 2⟩, ⟨1, 2, [], 3⟩, ⟨1, 2, [1], 1⟩, ⟨1, 2, [1], 2⟩, ⟨1, 2, [1], 3⟩, ⟨2, 2, [], 1⟩, ⟨2, 2, [], 2⟩, ⟨2, 2, [], 3⟩]
  | 2 => [⟨0, 0, [], 0⟩, ⟨0, 0, [], 1⟩, ⟨0, 0, [], 2⟩, ⟨0, 0, [], 3⟩, ⟨0, 0, [], 4⟩, ⟨0, 1, [], 1⟩, ⟨0, 1, [], 2⟩, ⟨0, 1, [], 3⟩, ⟨0, 1, [], 4⟩, ⟨0, 1, [0], 1⟩, ⟨0, 1, [0], 2⟩, ⟨0, 1, [0], 3⟩, ⟨0, 1, [0], 4⟩, ⟨0, 2, [], 2⟩, ⟨0, 2, [], 3⟩, ⟨0, 2, [], 4⟩, ⟨0, 2, [0, 1], 2⟩, ⟨0, 2, [0, 1], 3⟩, ⟨0, 2, [0, 1], 4⟩, ⟨0, 2, [1], 2⟩, ⟨0, 2, [1], 3⟩, ⟨0, 2, [1], 4⟩, ⟨0, 3, [], 2⟩, ⟨0, 3, [], 3⟩, ⟨0, 3, [], 4⟩, ⟨0, 3, [0, 1, 2], 2⟩, ⟨0, 3, [0, 1, 2], 3⟩, ⟨0, 3, [0, 1, 2], 4⟩, ⟨0, 3, [1, 2], 2⟩, ⟨0, 3, [1, 2], 3⟩, ⟨0, 3, [1, 2], 4⟩, ⟨0, 3, [2], 2⟩, ⟨0, 3, [2], 3⟩, ⟨0, 3, [2], 4⟩, ⟨1, 1, [], 1⟩, ⟨1, 1, [], 2⟩, ⟨1, 1, [], 3⟩, ⟨1, 1, [], 4⟩, ⟨1, 2, [], 2⟩, ⟨1, 2, [], 3⟩, ⟨1, 2, [], 4⟩, ⟨1, 2, [1], 2⟩, ⟨1, 2, [1], 3⟩, ⟨1, 2, [1], 4⟩, ⟨1, 3, [], 2⟩, ⟨1, 3, [], 3⟩, ⟨1, 3, [], 4⟩, ⟨1, 3, [1, 2], 2⟩, ⟨1, 3, [1, 2], 3⟩, ⟨1, 3, [1, 2], 4⟩, ⟨1, 3, [2], 2⟩, ⟨1, 3, [2], 3⟩, ⟨1, 3, [2], 4⟩, ⟨2, 2, [], 2⟩, ⟨2, 2, [], 3⟩, ⟨2, 2, [], 4⟩, ⟨2, 3, [], 2⟩, ⟨2, 3, [], 3⟩, ⟨2, 3, [], 4⟩, ⟨2, 3, [2], 2⟩, ⟨2, 3, [2], 3⟩, ⟨2, 3, [2], 4⟩, ⟨3, 3, [], 2⟩, ⟨3, 3, [], 3⟩, ⟨3, 3, [], 4⟩]
  | _ => []
def ins : Nat → Nat → List IS
  | 0, 1 => [⟨0, [], some 0, 0⟩, ⟨0, [], some 0, 1⟩, ⟨0, [], none, 0⟩, ⟨0, [], none, 1⟩]
  | 0, 2 => [⟨0, [], some 0, 0⟩, ⟨0, [], some 0, 2⟩, ⟨0, [], none, 0⟩, ⟨0, [], none, 2⟩]
  | 1, 1 => [⟨0, [], some 1, 1⟩, ⟨0, [], none, 0⟩, ⟨0, [], none, 1⟩, ⟨0, [0], some 1, 1⟩, ⟨0, [0], none, 1⟩, ⟨1, [], some 1, 1⟩, ⟨1, [], some 1, 2⟩, ⟨1, [], none, 1⟩, ⟨1, [], none, 2⟩]
  | 1, 2 => [⟨0, [], some 1, 2⟩, ⟨0, [], none, 0⟩, ⟨0, [], none, 2⟩, ⟨0, [0], some 1, 2⟩, ⟨0, [0], none, 2⟩, ⟨1, [], some 1, 2⟩, ⟨1, [], some 1, 3⟩, ⟨1, [], none, 2⟩, ⟨1, [], none, 3⟩]
  | 2, 1 => [⟨0, [], none, 0⟩, ⟨0, [], none, 1⟩, ⟨0, [0], some 1, 1⟩, ⟨0, [0], none, 1⟩, ⟨1, [], some 1, 1⟩, ⟨1, [], some 1, 2⟩, ⟨1, [], some 2, 2⟩, ⟨1, [], none, 1⟩, ⟨1, [], none, 2⟩, ⟨1, [1], some 2, 2⟩, ⟨1, [1], none, 2⟩, ⟨2, [], some 2, 2⟩, ⟨2, [], some 2, 3⟩, ⟨2, [], none, 2⟩, ⟨2, [], none, 3⟩]
  | 2, 2 => [⟨0, [], some 2, 2⟩, ⟨0, [], none, 0⟩, ⟨0, [], none, 2⟩, ⟨0, [0, 1], some 2, 2⟩, ⟨0, [0, 1], none, 2⟩, ⟨0, [0], some 1, 2⟩, ⟨0, [0], some 2, 2⟩, ⟨0, [0], none, 2⟩, ⟨0, [1], some 2, 2⟩, ⟨0, [1], none, 2⟩, ⟨1, [], some 1, 2⟩, ⟨1, [], some 1, 3⟩, ⟨1, [], some 2, 2⟩, ⟨1, [], some 2, 3⟩, ⟨1, [], none, 2⟩, ⟨1, [], none, 3⟩, ⟨1, [1], some 2, 2⟩, ⟨1, [1], some 2, 3⟩, ⟨1, [1], none, 2⟩, ⟨1, [1], none, 3⟩, ⟨2, [], some 2, 2⟩, ⟨2, [], some 2, 3⟩, ⟨2, [], some 2, 4⟩, ⟨2, [], none, 2⟩, ⟨2, [], none, 3⟩, ⟨2, [], none, 4⟩]
  | _, _ => []
/-- places that follow one another, together -/
def rngs : List Nat → List (Nat × Nat)
  | [] => []
  | p :: r => match rngs r with
    | (a, b) :: t => if a = p + 1 then (p, b) :: t else (p, p + 1) :: (a, b) :: t
    | [] => [(p, p + 1)]
def nat (n : Nat) : PV := .int n
def nats (l : List Nat) : PV := .tup (l.map nat)
def upTo (a b : Nat) : List Nat := (List.range b).drop a
def rg2 (p : Nat × Nat) : PV := .tup [nat p.1, nat p.2]
/-- as the law has it -/
def eBox (s : OS) : PV := .tup [nat s.k, nat s.n, nats s.lost, nat s.lim]
/-- as the program has it -/
def eOb (L : Nat) (s : OS) : PV := .tup [nat (min s.k L), nats (upTo (min s.k L) L), .bl true, nat s.n, .tup (if L < s.k then [rg2 (L, L + 1)] else []), .tup ((rngs s.lost).map rg2), nat s.lim]
def oN : Option Nat → PV
  | none => .non
  | some n => nat n
def eIn (s : IS) : PV := .tup [nat s.rd, nats s.held, oN s.stop, nat s.gr]
def eIb (room : Nat) (s : IS) : PV := .tup [nat s.rd, .tup ((rngs s.held).map fun p => .tup [nat p.1, nats (upTo p.1 p.2)]), oN s.stop, nat room, nat s.gr]
/-- what is taken: a place, the box behind it -/
def takeT (L : Nat) (s : OS) : Option (Nat × OS) := match s.lost with
  | p :: r => some (p, { s with lost := r })
  | [] => if s.n < min L s.lim ∨ (s.n = L ∧ L ≤ s.lim) then some (s.n, { s with n := s.n + 1 }) else none
def underT (s : OS) : List Nat := (upTo s.k s.n).filter fun p => !s.lost.contains p
def loseT (s : OS) : OS := { s with lost := upTo s.k s.n }
def hadT (s : OS) (have_ : Nat) : OS := { s with k := max s.k have_, lost := s.lost.filter fun p => decide (max s.k have_ ≤ p) }
def roomT (s : OS) (lim : Nat) : OS := { s with lim := max s.lim lim }
def pieceP (L p : Nat) : PV := if p < L then .tup [nat p, nats [p], .bl false] else .tup [nat p, .tup [], .bl true]
end OL
end
section
set_option Elab.async false
set_option linter.all false
set_option maxRecDepth 100000
set_option maxHeartbeats 1000000
/-! OM, part z: the boxes' states listed; what is told of each. -/
namespace OL
theorem mapAt {α β : Type} {f g : α → β} {l : List α} (h : l.map f = l.map g) {a : α} (m : a ∈ l) : f a = g a := List.map_inj_left.mp h a m
def osL : List (Nat × OS) := [0, 1, 2].flatMap fun L => (outs L).map fun s => (L, s)
def isL : List (Nat × Nat × IS) := [0, 1, 2].flatMap fun L => [1, 2].flatMap fun r => (ins L r).map fun s => (L, r, s)
theorem outs_lt {L : Nat} {s : OS} (h : s ∈ outs L) : L = 0 ∨ L = 1 ∨ L = 2 := by
  rcases L with _ | _ | _ | L
  · exact .inl rfl
  · exact .inr (.inl rfl)
  · exact .inr (.inr rfl)
  · cases h
theorem os_mem {L : Nat} {s : OS} (h : s ∈ outs L) : (L, s) ∈ osL := by
  unfold osL
  refine List.mem_flatMap.mpr ⟨L, ?_, List.mem_map.mpr ⟨s, h, rfl⟩⟩
  rcases outs_lt h with e | e | e <;> subst e <;> decide
theorem ins_lt {L r : Nat} {s : IS} (h : s ∈ ins L r) : (L = 0 ∨ L = 1 ∨ L = 2) ∧ (r = 1 ∨ r = 2) := by
  rcases L with _ | _ | _ | L <;> rcases r with _ | _ | _ | r <;> first | exact ⟨by decide, by decide⟩ | cases h
theorem is_mem {L r : Nat} {s : IS} (h : s ∈ ins L r) : (L, r, s) ∈ isL := by
  unfold isL
  obtain ⟨a, b⟩ := ins_lt h
  refine List.mem_flatMap.mpr ⟨L, ?_, List.mem_flatMap.mpr ⟨r, ?_, List.mem_map.mpr ⟨s, h, rfl⟩⟩⟩
  · rcases a with e | e | e <;> subst e <;> decide
  · rcases b with e | e <;> subst e <;> decide
def osH : List (Nat × OS × Nat) := osL.flatMap fun p => (List.range (p.2.n + 1)).map fun h => (p.1, p.2, h)
theorem osH_mem {L : Nat} {s : OS} (h : s ∈ outs L) {k : Nat} (hk : k ≤ s.n) : (L, s, k) ∈ osH := List.mem_flatMap.mpr ⟨(L, s), os_mem h, List.mem_map.mpr ⟨k, List.mem_range.mpr (Nat.lt_succ_of_le hk), rfl⟩⟩
/-- a piece: its place, whether it has an octet, whether it ends the stream -/
structure Pc where
  low : Nat
  oct : Bool
  fin : Bool
  deriving DecidableEq
def Pc.top (c : Pc) : Nat := if c.oct = true then c.low + 1 else c.low
def ePc (c : Pc) : PV := .tup [nat c.low, nats (if c.oct = true then [c.low] else []), .bl c.fin]
def pcs : Nat → List Pc
  | 0 => [⟨0, false, true⟩]
  | 1 => [⟨0, true, false⟩, ⟨1, false, true⟩]
  | 2 => [⟨0, true, false⟩, ⟨0, true, true⟩, ⟨1, true, false⟩, ⟨2, false, true⟩]
  | _ => []
def isP : List (Nat × Nat × IS × Pc) := isL.flatMap fun p => (pcs p.1).map fun c => (p.1, p.2.1, p.2.2, c)
theorem isP_mem {L r : Nat} {s : IS} (h : s ∈ ins L r) {c : Pc} (hc : c ∈ pcs L) : (L, r, s, c) ∈ isP := List.mem_flatMap.mpr ⟨(L, r, s), is_mem h, List.mem_map.mpr ⟨c, hc, rfl⟩⟩
def takeV (L : Nat) (s : OS) : PV := match takeT L s with
  | none => .tup [eOb L s, .non]
  | some (p, s') => .tup [eOb L s', pieceP L p]
def rdbT (s : IS) : Nat := if s.held.contains s.rd = true then (if s.held.contains (s.rd + 1) = true then 2 else 1) else 0
def haveT (s : IS) : Nat := if s.stop = some (s.rd + rdbT s) then s.rd + rdbT s + 1 else s.rd + rdbT s
def readT (s : IS) : IS := { s with rd := s.rd + 1, held := s.held.drop 1 }
def grantT (r : Nat) (s : IS) : IS := { s with gr := s.rd + r }
def hstop (s : IS) : Nat := s.held.foldl (fun a x => max a (x + 1)) s.rd
/-- the word for which a piece is refused -/
def badW (s : IS) (c : Pc) : Option String := if s.gr < c.top then some "beyond" else match s.stop with
  | some t => if (c.oct && decide (t < c.top)) || (c.fin && !decide (c.top = t)) then some "end" else none
  | none => if c.fin && decide (c.top < hstop s) then some "end" else none
def insN (x : Nat) : List Nat → List Nat
  | [] => [x]
  | y :: r => if x < y then x :: y :: r else if x = y then y :: r else y :: insN x r
def fedT (s : IS) (c : Pc) : IS := match badW s c with
  | some _ => s
  | none => { s with held := if c.oct = true ∧ s.rd ≤ c.low then insN c.low s.held else s.held, stop := if c.fin = true then some c.top else s.stop }
def putV (r : Nat) (s : IS) (c : Pc) (μ : Sto) : Res PV := match badW s c with
  | some w => .exc 3 [.str w] μ
  | none => .ok (eIb r (fedT s c)) μ
theorem putV_ok (r : Nat) (s : IS) (c : Pc) (μ : Sto) : putV r s c μ ≠ .err := by
  unfold putV
  cases badW s c <;> (intro z; cases z)
def t6 (L : Nat) (s : IS) : Bool := decide (L < s.rd) || !(s.stop == none || s.stop == some L)
def huT (L : Nat) (s : IS) : Nat := if s.stop = some L then L + 1 else L
/-! ### no state leads out -/
theorem take_in {L : Nat} {s : OS} (h : s ∈ outs L) {p : Nat} {s' : OS} (e : takeT L s = some (p, s')) : s' ∈ outs L ∧ p ≤ L := by
  have k : (osL.all fun q => match takeT q.1 q.2 with
    | none => true
    | some (p, s') => decide (s' ∈ outs q.1) && decide (p ≤ q.1)) = true := by decide +kernel
  have g := List.all_eq_true.mp k _ (os_mem h)
  simp only [e, Bool.and_eq_true, decide_eq_true_eq] at g
  exact g
theorem lose_in {L : Nat} {s : OS} (h : s ∈ outs L) : loseT s ∈ outs L := by
  have k : (osL.all fun q => decide (loseT q.2 ∈ outs q.1)) = true := by decide +kernel
  exact of_decide_eq_true (List.all_eq_true.mp k _ (os_mem h))
theorem had_in {L : Nat} {s : OS} (h : s ∈ outs L) {k : Nat} (hk : k ≤ s.n) : hadT s k ∈ outs L := by
  have k : (osH.all fun q => decide (hadT q.2.1 q.2.2 ∈ outs q.1)) = true := by decide +kernel
  exact of_decide_eq_true (List.all_eq_true.mp k _ (osH_mem h hk))
theorem room_in {L : Nat} {s : OS} (h : s ∈ outs L) {k : Nat} (hk : k ≤ L + 2) : roomT s k ∈ outs L := by
  have g : (osL.all fun q => (List.range (q.1 + 3)).all fun k => decide (roomT q.2 k ∈ outs q.1)) = true := by decide +kernel
  exact of_decide_eq_true (List.all_eq_true.mp (List.all_eq_true.mp g _ (os_mem h)) k (List.mem_range.mpr (by show k < L + 3; omega)))
theorem out0_in {L : Nat} (h : L ≤ 2) : ⟨0, 0, [], 0⟩ ∈ outs L ∧ ⟨0, 0, [], L⟩ ∈ outs L := by
  have : L = 0 ∨ L = 1 ∨ L = 2 := by omega
  rcases this with e | e | e <;> subst e <;> decide
theorem in0_in {L r : Nat} (h : L ≤ 2) (h1 : 1 ≤ r) (h2 : r ≤ 2) : ⟨0, [], none, 0⟩ ∈ ins L r := by
  have : L = 0 ∨ L = 1 ∨ L = 2 := by omega
  have : r = 1 ∨ r = 2 := by omega
  rcases ‹L = 0 ∨ L = 1 ∨ L = 2› with e | e | e <;> rcases ‹r = 1 ∨ r = 2› with f | f <;> subst e <;> subst f <;> decide
theorem read_in {L r : Nat} {s : IS} (h : s ∈ ins L r) (hr : s.held.contains s.rd = true) : readT s ∈ ins L r ∧ s.held = s.rd :: s.held.drop 1 := by
  have k : (isL.all fun q => !q.2.2.held.contains q.2.2.rd || (decide (readT q.2.2 ∈ ins q.1 q.2.1) && decide (q.2.2.held = q.2.2.rd :: q.2.2.held.drop 1))) = true := by decide +kernel
  have g := List.all_eq_true.mp k _ (is_mem h)
  simp only [hr, Bool.not_true, Bool.false_or, Bool.and_eq_true, decide_eq_true_eq] at g
  exact g
theorem grant_in {L r : Nat} {s : IS} (h : s ∈ ins L r) : grantT r s ∈ ins L r ∧ s.rd ≤ L ∧ haveT s ≤ L + 1 ∧ haveT (grantT r s) = haveT s := by
  have k : (isL.all fun q => decide (grantT q.2.1 q.2.2 ∈ ins q.1 q.2.1 ∧ q.2.2.rd ≤ q.1 ∧ haveT q.2.2 ≤ q.1 + 1 ∧ haveT (grantT q.2.1 q.2.2) = haveT q.2.2)) = true := by decide +kernel
  exact of_decide_eq_true (List.all_eq_true.mp k _ (is_mem h))
theorem fed_in {L r : Nat} {s : IS} (h : s ∈ ins L r) {c : Pc} (hc : c ∈ pcs L) : fedT s c ∈ ins L r := by
  have k : (isP.all fun q => decide (fedT q.2.2.1 q.2.2.2 ∈ ins q.1 q.2.1)) = true := by decide +kernel
  exact of_decide_eq_true (List.all_eq_true.mp k _ (isP_mem h hc))
theorem under_in {L : Nat} {s : OS} (h : s ∈ outs L) : (underT s = [] ∧ rngs (underT s) = []) ∨ ∃ a b, underT s ≠ [] ∧ rngs (underT s) = [(a, b)] ∧ a < b ∧ b ≤ s.n := by
  have k : (osL.all fun q => match rngs (underT q.2) with
    | [] => decide (underT q.2 = [])
    | [(a, b)] => decide (underT q.2 ≠ [] ∧ a < b ∧ b ≤ q.2.n)
    | _ => false) = true := by decide +kernel
  have g := List.all_eq_true.mp k _ (os_mem h)
  revert g
  cases e : rngs (underT s) with
  | nil => intro g; simp only [e] at g; exact .inl ⟨of_decide_eq_true g, rfl⟩
  | cons p r =>
    obtain ⟨a, b⟩ := p
    cases r with
    | nil => intro g; simp only [e] at g; exact .inr ⟨a, b, (of_decide_eq_true g).1, rfl, (of_decide_eq_true g).2⟩
    | cons q t => intro g; simp only [e] at g; cases g
end OL
end
section
set_option Elab.async false
set_option linter.all false
set_option maxRecDepth 100000
set_option maxHeartbeats 1000000
/-! OM, part za: loops that gather; rows of the small worlds. -/
namespace OL
open PySem
@[simp] theorem evo_some (cf : CF) (o0 : Option PV) (env : Env) (μ : Sto) (e : E) : evO cf (some e) (o0 :: env) μ = (evE cf e (o0 :: env) μ).bind fun v μ => (match v with
    | .int i => .ok (some i) μ
    | _ => .err) := by
  rw [evO] <;> rfl
theorem add_tup (x y : List PV) (μ : Sto) : binOp .add (.tup x) (.tup y) μ = if x.length + y.length ≤ SZ then .ok (.tup (x ++ y)) μ else .err := by
  show (if Bop.add = .add ∧ x.length + y.length ≤ SZ then Res.ok (PV.tup (x ++ y)) μ else .err) = _
  by_cases h : x.length + y.length ≤ SZ
  · rw [if_pos ⟨rfl, h⟩, if_pos h]
  · rw [if_neg fun z => h z.2, if_neg h]
theorem add_lv (x y : List PV) (μ : Sto) : binOp .add (.lv x) (.lv y) μ = newL (x ++ y) μ := by
  show (if Bop.add = .add then newL (x ++ y) μ else .err) = _
  rw [if_pos rfl]
theorem st_oap (cf : CF) (o0 : Option PV) (env : Env) (μ : Sto) (i : Nat) (e : E) {l : List PV} (h : getO (o0 :: env) i = some (.lv l)) : evS cf (.oap i e) (o0 :: env) μ = (evE cf e (o0 :: env) μ).thn (o0 :: env) fun v μ => nxO ((appV (.lv l) v).bind (setO (o0 :: env) i)) μ := by
  rw [evS, h]
theorem st_oex (cf : CF) (o0 : Option PV) (env : Env) (μ : Sto) (i : Nat) (e : E) {l : List PV} (h : getO (o0 :: env) i = some (.lv l)) : evS cf (.oex i e) (o0 :: env) μ = (evE cf e (o0 :: env) μ).thn (o0 :: env) fun v μ => nxO ((extV (.lv l) v).bind (setO (o0 :: env) i)) μ := by
  rw [evS, h]
theorem seq_nx (env : OL.Env) (μ : Sto) (f : OL.Env → Sto → Out) : (Out.ok Flow.nx env μ).seq f = f env μ := rfl
/-- a loop that adds to what it has -/
theorem forL_app {asn : PV → Env → Option Env} {b : Env → Sto → Out} {μ : Sto} {α : Type} {it : α → PV} {g : α → List PV} {Inv : List PV → Env → Prop} : ∀ {l : List α}, (∀ x ∈ l, ∀ acc env, Inv acc env → acc.length + (g x).length < SZ → ∃ env1 env2, asn (it x) env = some env1 ∧ b env1 μ = .ok .nx env2 μ ∧ Inv (acc ++ g x) env2) → ∀ {acc : List PV} {env : Env}, Inv acc env → acc.length + (l.flatMap g).length < SZ →
    ∃ env', forL asn b (l.map it) env μ = .ok .nx env' μ ∧ Inv (acc ++ l.flatMap g) env'
  | [], _, acc, env, hI, _ => ⟨env, rfl, by simpa using hI⟩
  | x :: r, h, acc, env, hI, hl => by
    have e1 : (List.flatMap g (x :: r)).length = (g x).length + (r.flatMap g).length := by simp
    obtain ⟨env1, env2, h1, h2, h3⟩ := h x List.mem_cons_self acc env hI (by omega)
    obtain ⟨env', h4, h5⟩ := forL_app (fun y hy => h y (List.mem_cons_of_mem _ hy)) h3 (by rw [List.length_append]; omega)
    refine ⟨env', ?_, by simpa using h5⟩
    rw [List.map_cons]
    unfold forL
    rw [h1]
    simp only [h2]
    exact h4
theorem flat_cond {α : Type} {c : α → Bool} {f : α → PV} : ∀ l : List α, (l.flatMap fun x => cond (c x) [f x] []).length ≤ l.length
  | [] => Nat.le_refl _
  | x :: r => by
    have z := flat_cond (c := c) (f := f) r
    rw [List.flatMap_cons, List.length_append, List.length_cons]
    have y : (cond (c x) [f x] []).length ≤ 1 := by cases c x <;> simp
    omega
theorem putRow_mem {l : List PV} {x v : PV} (h : v ∈ putRow l x) : v ∈ l ∨ v = x := by
  unfold putRow at h
  split at h
  · exact .inl h
  · rcases List.mem_append.mp (srt_mem.mp h) with hv | hv
    · exact .inl hv
    · exact .inr (List.mem_singleton.mp hv)
abbrev r2S : List Sh := [.i]
abbrev s6S : List Sh := [.i, .i, .t, .b]
abbrev s7S : List Sh := [.i, .i, .i]
def e2 (a b : Int) : PV := .tup [.int a, .int b]
def e6 (a b : Int) (c : Pc) : PV := .tup [.int a, .int b, nat c.low, nats (if c.oct = true then [c.low] else []), .bl c.fin]
def e7 (a b : Int) (h t : Nat) : PV := .tup [.int a, .int b, nat h, nat t]
def R2 (l : List PV) : Prop := ∀ v ∈ l, ∃ a b, v = e2 a b
def R6 (L : Nat) (l : List PV) : Prop := ∀ v ∈ l, ∃ a b, ∃ c ∈ pcs L, v = e6 a b c
def R7 (L : Nat) (l : List PV) : Prop := ∀ v ∈ l, ∃ a b h t, h ≤ L + 2 ∧ t ≤ L + 2 ∧ v = e7 a b h t
theorem sh2 (a b : Int) : shT (.i :: r2S) (e2 a b) = true := rfl
theorem sh6 (a b : Int) (c : Pc) : shT (.i :: s6S) (e6 a b c) = true := by
  cases h : c.oct <;> simp [e6, h, shT, shL, shB, nats, nat, intB]
theorem sh7 (a b : Int) (h t : Nat) : shT (.i :: s7S) (e7 a b h t) = true := rfl
theorem R2.row {l : List PV} (h : R2 l) : Row .i r2S l := fun v hv => by obtain ⟨a, b, rfl⟩ := h v hv; exact sh2 a b
theorem R6.row {L : Nat} {l : List PV} (h : R6 L l) : Row .i s6S l := fun v hv => by obtain ⟨a, b, c, _, rfl⟩ := h v hv; exact sh6 a b c
theorem R7.row {L : Nat} {l : List PV} (h : R7 L l) : Row .i s7S l := fun v hv => by obtain ⟨a, b, c, t, _, _, rfl⟩ := h v hv; exact sh7 a b c t
theorem R2.put {l : List PV} (h : R2 l) (a b : Int) : R2 (putRow l (e2 a b)) := fun v hv => by
  rcases putRow_mem hv with hv | hv
  · exact h v hv
  · exact ⟨a, b, hv⟩
theorem R6.put {L : Nat} {l : List PV} (h : R6 L l) (a b : Int) {c : Pc} (hc : c ∈ pcs L) : R6 L (putRow l (e6 a b c)) := fun v hv => by
  rcases putRow_mem hv with hv | hv
  · exact h v hv
  · exact ⟨a, b, c, hc, hv⟩
theorem R7.put {L : Nat} {l : List PV} (h : R7 L l) (a b : Int) {k t : Nat} (hk : k ≤ L + 2) (ht : t ≤ L + 2) : R7 L (putRow l (e7 a b k t)) := fun v hv => by
  rcases putRow_mem hv with hv | hv
  · exact h v hv
  · exact ⟨a, b, k, t, hk, ht, hv⟩
/-! ### worlds -/
structure Lk where
  m : Int
  p : Int
  b : Bool
structure W where
  l0 : Lk
  l1 : Lk
  o : OS
  i : IS
  g0 : List PV
  g1 : List PV
  s6 : List PV
  s7 : List PV
  s8 : List PV
structure WOk (L r k : Nat) (w : W) : Prop where
  o : w.o ∈ outs L
  i : w.i ∈ ins L r
  g0 : R2 w.g0
  g1 : R2 w.g1
  s6 : R6 L w.s6
  s7 : R7 L w.s7
  s8 : R2 w.s8
  n0 : w.g0.length ≤ k
  n1 : w.g1.length ≤ k
  n6 : w.s6.length ≤ k
  n7 : w.s7.length ≤ k
  n8 : w.s8.length ≤ k
def W.lk (w : W) (s : Bool) : Lk := if s = true then w.l1 else w.l0
@[simp] theorem W.lk_t (w : W) : W.lk w true = w.l1 := rfl
@[simp] theorem W.lk_f (w : W) : W.lk w false = w.l0 := rfl
/-! ### what is heard -/
/-- a letter: a greeting or more, the row's item -/
abbrev Lt := Bool × PV
def w2 : Bool → Str
  | true => "greet"
  | false => "more"
def itsOf : PV → List PV
  | .tup l => l
  | _ => []
def ltA : PV → Int
  | .tup (.int a :: _) => a
  | _ => 0
def ltC : PV → Int
  | .tup (_ :: .int c :: _) => c
  | _ => 0
def hearL (w : W) (s : Bool) : List Lt := if s = true then w.g0.map (fun v => (true, v)) ++ w.s6.map (fun v => (false, v)) else w.g1.map (fun v => (true, v)) ++ w.s7.map (fun v => (false, v))
def eLp (q : Lt) : PV := .tup (.str (w2 q.1) :: itsOf q.2)
/-- letters are tuples that begin with two lives -/
def R0 (l : List PV) : Prop := ∀ v ∈ l, ∃ a c t, v = .tup (.int a :: .int c :: t) ∧ t.length ≤ 5
theorem R2.r0 {l : List PV} (h : R2 l) : R0 l := fun v hv => by obtain ⟨a, b, rfl⟩ := h v hv; exact ⟨a, b, [], rfl, by simp⟩
theorem R6.r0 {L : Nat} {l : List PV} (h : R6 L l) : R0 l := fun v hv => by obtain ⟨a, b, c, _, rfl⟩ := h v hv; exact ⟨a, b, _, rfl, by simp⟩
theorem R7.r0 {L : Nat} {l : List PV} (h : R7 L l) : R0 l := fun v hv => by obtain ⟨a, b, c, t, _, _, rfl⟩ := h v hv; exact ⟨a, b, _, rfl, by simp⟩
theorem lets_comp {cf : CF} {o0 : Option PV} {env : OL.Env} {μ : Sto} {i : Nat} {e : E} {l : List PV} {x : Str} (hi : i < env.length + 1) (h0 : i ≠ 0) (he : evE cf e (o0 :: env) μ = .ok (.tup l) μ) (hl : l.length ≤ 1000) (h : R0 l) :
    evE cf (.comp (.bin .add (.tup [(.con (.str x))]) (.var i)) (.nm i) e none [i]) (o0 :: env) μ = .ok (.lv (l.map fun v => .tup (.str x :: itsOf v))) μ := by
  obtain ⟨j, rfl⟩ := Nat.exists_eq_succ_of_ne_zero h0
  refine comp_map (it := fun v => v) he (by simpa using wk_tup μ l) (fun v hv => ?_) (by unfold SZ; omega)
  obtain ⟨a, c, t, rfl, ht⟩ := h v hv
  refine ⟨o0 :: (env.set j none).set j (some (.tup (.int a :: .int c :: t))), by simp [wipeE]; omega, ?_⟩
  have hj : j < env.length := by omega
  have hs : slot (env.set j (some (.tup (.int a :: .int c :: t)))) j = some (.tup (.int a :: .int c :: t)) := by
    simp [slot, hj]
  have hz : t.length + 1 + 1 + 1 ≤ 16777216 := by omega
  simp [add_tup, SZ, itsOf, hs]
  omega
theorem hearL_r0 {L r k : Nat} {w : W} (h : WOk L r k w) (s : Bool) : R0 ((hearL w s).map (·.2)) := by
  have e : (hearL w s).map (·.2) = if s = true then w.g0 ++ w.s6 else w.g1 ++ w.s7 := by
    cases s <;> simp [hearL, Function.comp_def]
  rw [e]
  intro v hv
  cases s <;> simp only [if_true, Bool.false_eq_true, if_false, List.mem_append] at hv <;> rcases hv with hv | hv
  · exact h.g1.r0 v hv
  · exact h.s7.r0 v hv
  · exact h.g0.r0 v hv
  · exact h.s6.r0 v hv
theorem cut13 (a b c d : PV) : cutL [a, b, c, d] (some 1) (some 3) = [b, c] := rfl
end OL
end
section
set_option Elab.async false
set_option linter.all false
set_option maxRecDepth 100000
set_option maxHeartbeats 2000000
/-! the small worlds, part a: rows and links -/
namespace M76
open PySem OL
abbrev P : Prog := md.prog
theorem at_put_in : P.funs[74]? = some f74 := fun_at defs_eq _ rfl
theorem at_law_put : P.funs[105]? = some f105 := fun_at defs_eq _ rfl
theorem putBody {cf : CF} {μ : Sto} {s : Sh} {ss : List Sh} {l xs : List PV} (h : Row s ss l) (hx : shT (s :: ss) (.tup xs) = true) (hl : l.length < 1000) :
    outR (evSs cf f74.body (entry 2 [.tup l, .tup xs]) μ) = .ok (.tup (putRow l (.tup xs))) μ := by
  have hm : cmpOp .mem (.tup xs) (.tup l) μ = some (l.any fun y => PyData.eqv (pd y) (pd (.tup xs))) := inM_tup (shT_pu hx) h.pus (by decide) μ
  have hz : l.length + 1 ≤ SZ := by unfold SZ; omega
  simp only [entry, List.map, List.length_cons, List.length_nil, List.replicate, List.append_nil, f74]
  unfold putRow
  cases e : (l.any fun y => PyData.eqv (pd y) (pd (.tup xs))) with
  | true =>
    rw [e] at hm
    simp [hm]
  | false =>
    rw [e] at hm
    have h2 := row_snoc h hx
    have hs := sortedM_row h2 μ
    simp [hm, binOp, hz, SZ, bltM, itAll, hs, newL, srt_length]
theorem put_in_eq (d : Nat) {μ : Sto} {s : Sh} {ss : List Sh} {l xs : List PV} (h : Row s ss l) (hx : shT (s :: ss) (.tup xs) = true) (hl : l.length < 1000) : (cfN P (d + 1)).call 74 [.tup l, .tup xs] μ = .ok (.tup (putRow l (.tup xs))) μ := by
  rw [call_at at_put_in d rfl]
  exact putBody h hx hl
theorem law_put_eq (d : Nat) {μ : Sto} {s : Sh} {ss : List Sh} {l xs : List PV} (h : Row s ss l) (hx : shT (s :: ss) (.tup xs) = true) (hl : l.length < 1000) : (cfN P (d + 1)).call 105 [.tup l, .tup xs] μ = .ok (.tup (putRow l (.tup xs))) μ := by
  rw [call_at at_law_put d rfl]
  exact putBody h hx hl
/-! ### links -/
def ph (b : Bool) : Str := if b = true then "sure" else "new"
@[simp] theorem ph_true : ph true = "sure" := rfl
@[simp] theorem ph_false : ph false = "new" := rfl
def SOk (r : Str) : Prop := PyData.canLay0 (.str r) = true
theorem SOk.lay {r : Str} (h : SOk r) : PyData.canLay0 (.str r) = true := h
theorem ph_ok (b : Bool) : SOk (ph b) := by unfold SOk; cases b <;> decide +kernel
theorem so_sure : SOk "sure" := by unfold SOk; decide +kernel
theorem so_new : SOk "new" := by unfold SOk; decide +kernel
theorem so_to : SOk "to" := by unfold SOk; decide +kernel
theorem so_peer : SOk "peer" := by unfold SOk; decide +kernel
theorem so_older : SOk "older" := by unfold SOk; decide +kernel
theorem so_count : SOk "count" := by unfold SOk; decide +kernel
theorem so_bare : SOk "bare" := by unfold SOk; decide +kernel
theorem so_limit : SOk "limit" := by unfold SOk; decide +kernel
theorem so_have : SOk "have" := by unfold SOk; decide +kernel
theorem so_end : SOk "end" := by unfold SOk; decide +kernel
theorem so_greet : SOk "greet" := by unfold SOk; decide +kernel
theorem so_more : SOk "more" := by unfold SOk; decide +kernel
theorem so_take : SOk "take" := by unfold SOk; decide +kernel
theorem so_lose : SOk "lose" := by unfold SOk; decide +kernel
theorem so_room : SOk "room" := by unfold SOk; decide +kernel
theorem so_hear : SOk "hear" := by unfold SOk; decide +kernel
theorem so_read : SOk "read" := by unfold SOk; decide +kernel
theorem so_crash : SOk "crash" := by unfold SOk; decide +kernel
/-- whether a text is that text -/
def rIs (r c : Str) : Bool := decide (r = c)
@[simp] theorem ris_self (r : Str) : rIs r r = true := decide_eq_true rfl
@[simp] theorem ris_ns : rIs "new" "sure" = false := by decide +kernel
def lk (s m p : Int) (b : Bool) : PV := .tup [.int s, .int m, .int p, .str (ph b)]
@[simp] theorem eqS {i j : Str} (hi : SOk i) (hj : SOk j) (μ : Sto) : cmpOp .eq (.str i) (.str j) μ = some (rIs i j) := eq_str hi.lay hj.lay μ
@[simp] theorem neS {i j : Str} (hi : SOk i) (hj : SOk j) (μ : Sto) : cmpOp .ne (.str i) (.str j) μ = some (!rIs i j) := by
  show (eqM μ (.str i) (.str j)).map (!·) = _
  rw [eq_str hi.lay hj.lay]
  rfl
@[simp] theorem cmp_ph (b : Bool) (μ : Sto) : cmpOp .eq (.str (ph b)) (.str "sure") μ = some b := by
  rw [eqS (ph_ok b) so_sure]
  cases b <;> simp
@[simp] theorem idx_tup (l : List PV) (k : Int) (μ : Sto) : idxM μ (.tup l) (.int k) = L2.atI l k := rfl
theorem at_heard : P.funs[75]? = some f75 := fun_at defs_eq _ rfl
theorem at_law_heard : P.funs[106]? = some f106 := fun_at defs_eq _ rfl
/-- a link behind hearing; none: it is gone -/
def heardM (r : Str) (m p : Int) (b : Bool) (a c : Int) : Option (Int × Int × Bool) :=
  if decide (a < p) && !rIs r "older" then some (m, p, b) else if b && !decide (a = p) && !rIs r "peer" then none else some (m, a, b || decide (c = m) || rIs r "to")
def oLk (s : Int) : Option (Int × Int × Bool) → PV
  | none => .non
  | some (m, p, b) => lk s m p b
theorem heard_eq (d : Nat) {μ : Sto} {r : Str} (hr : SOk r) (s m p : Int) (b : Bool) (a c : Int) : (cfN P (d + 1)).call 75 [.str r, lk s m p b, .int a, .int c] μ = .ok (oLk s (heardM r m p b a c)) μ := by
  rw [call_at at_heard d rfl]
  simp [f75, entry, List.replicate, nxO, hr, so_sure, so_new, so_to, so_peer, so_older, SZ, lk, -Bool.and_eq_true, -Bool.or_eq_true]
  unfold heardM
  by_cases h1 : a < p <;> by_cases h3 : a = p <;> by_cases h5 : c = m <;> cases rIs r "older" <;> cases rIs r "peer" <;> cases rIs r "to" <;> cases b <;> simp [h1, h3, h5, oLk, lk]
theorem law_heard_eq (d : Nat) {μ : Sto} {r : Str} (hr : SOk r) (s m p : Int) (b : Bool) (a c : Int) : (cfN P (d + 1)).call 106 [.str r, lk s m p b, .int a, .int c] μ = .ok (oLk s (heardM r m p b a c)) μ := by
  rw [call_at at_law_heard d rfl]
  simp [f106, entry, List.replicate, nxO, hr, so_sure, so_new, so_to, so_peer, so_older, SZ, lk, -Bool.and_eq_true, -Bool.or_eq_true]
  unfold heardM
  by_cases h1 : a < p <;> by_cases h3 : a = p <;> by_cases h5 : c = m <;> cases rIs r "older" <;> cases rIs r "peer" <;> cases rIs r "to" <;> cases b <;> simp [h1, h3, h5, oLk, lk]
end M76
end
section
set_option Elab.async false
set_option linter.all false
set_option maxRecDepth 100000
set_option maxHeartbeats 2000000
/-! the small worlds, part b: links further, worlds changed -/
namespace M76
open PySem OL
theorem at_left : P.funs[73]? = some f73 := fun_at defs_eq _ rfl
theorem at_law_left : P.funs[107]? = some f107 := fun_at defs_eq _ rfl
theorem at_note : P.funs[76]? = some f76 := fun_at defs_eq _ rfl
theorem at_law_note : P.funs[108]? = some f108 := fun_at defs_eq _ rfl
theorem at_next : P.funs[77]? = some f77 := fun_at defs_eq _ rfl
theorem at_may : P.funs[84]? = some f84 := fun_at defs_eq _ rfl
theorem at_takes : P.funs[33]? = some f33 := fun_at defs_eq _ rfl
theorem at_changed : P.funs[82]? = some f82 := fun_at defs_eq _ rfl
theorem at_with : P.funs[109]? = some f109 := fun_at defs_eq _ rfl
@[simp] theorem fdiv2 (i : Int) : intOp .fdiv i 2 = some (i.fdiv 2) := by
  show (if (2 : Int) ≠ 0 ∧ (Int.natAbs 2).log2 < 9000 then some (i.fdiv 2) else none) = _
  rw [if_pos ⟨by decide, by decide⟩]
@[simp] theorem add_int (i j : Int) : intOp .add i j = some (i + j) := rfl
@[simp] theorem sub_int (i j : Int) : intOp .sub i j = some (i - j) := rfl
/-- a side's number -/
def sd (s : Bool) : Int := if s = true then 1 else 0
def leftM (s : Bool) (m b0 b1 : Int) : Bool := if s = true then decide (m.fdiv 2 < b1) else decide ((m + 1).fdiv 2 < b0)
theorem left_eq (d : Nat) {μ : Sto} (s : Bool) (m p b0 b1 : Int) (b : Bool) : (cfN P (d + 1)).call 73 [lk (sd s) m p b, .tup [.int b0, .int b1]] μ = .ok (.bl (leftM s m b0 b1)) μ := by
  rw [call_at at_left d rfl]
  have e : m + 1 - 1 = m := by omega
  cases s <;> simp [f73, entry, List.replicate, lk, sd, leftM, L2.atI, L2.ixN, e]
theorem law_left_eq (d : Nat) {μ : Sto} (s : Bool) (m p b0 b1 : Int) (b : Bool) : (cfN P (d + 1)).call 107 [lk (sd s) m p b, .tup [.int b0, .int b1]] μ = .ok (.bl (leftM s m b0 b1)) μ := by
  rw [call_at at_law_left d rfl]
  cases s <;> simp [f107, entry, List.replicate, lk, sd, leftM, L2.atI, L2.ixN]
abbrev prS : List Sh := [.i]
theorem sh_pair (a c : Int) : shT (.i :: prS) (.tup [.int a, .int c]) = true := rfl
def noteM (l : List PV) (m p : Int) (b : Bool) : List PV := if b = true then putRow l (.tup [.int m, .int p]) else l
theorem note_eq (d : Nat) {μ : Sto} {l : List PV} (h : Row .i prS l) (hl : l.length < 1000) (s m p : Int) (b : Bool) : (cfN P (d + 2)).call 76 [.tup l, lk s m p b] μ = .ok (.tup (noteM l m p b)) μ := by
  rw [call_at at_note (d + 1) rfl]
  have e := put_in_eq d (μ := μ) h (sh_pair m p) hl
  cases b <;> simp [f76, entry, List.replicate, lk, noteM, L2.atI, L2.ixN, so_sure, so_new, SZ, e]
theorem law_note_eq (d : Nat) {μ : Sto} {l : List PV} (h : Row .i prS l) (hl : l.length < 1000) (s m p : Int) (b : Bool) : (cfN P (d + 2)).call 108 [.tup l, lk s m p b] μ = .ok (.tup (noteM l m p b)) μ := by
  rw [call_at at_law_note (d + 1) rfl]
  have e := law_put_eq d (μ := μ) h (sh_pair m p) hl
  cases b <;> simp [f108, entry, List.replicate, lk, noteM, L2.atI, L2.ixN, so_sure, so_new, SZ, e]
def nextM (r : Str) (m f : Int) : Int := if rIs r "count" && decide (f = 0) then m else m + 2
theorem next_eq (d : Nat) {μ : Sto} {r : Str} (hr : SOk r) (s m p f : Int) (b : Bool) : (cfN P (d + 1)).call 77 [lk s m p b, .int f, .str r] μ = .ok (lk s (nextM r m f) f false) μ := by
  rw [call_at at_next d rfl]
  cases h : rIs r "count" <;> by_cases h2 : f = 0 <;> simp [f77, entry, List.replicate, lk, nextM, L2.atI, L2.ixN, hr, so_count, SZ, nxO, h, h2]
theorem may_eq (d : Nat) {μ : Sto} {r : Str} (hr : SOk r) (s m p : Int) (b : Bool) : (cfN P (d + 1)).call 84 [lk s m p b, .str r] μ = .ok (.bl (b || (rIs r "bare" && decide (0 < p)))) μ := by
  rw [call_at at_may d rfl]
  cases h : rIs r "bare" <;> cases b <;> simp [f84, entry, List.replicate, lk, L2.atI, L2.ixN, hr, so_bare, so_sure, so_new, SZ, h]
theorem takes_eq (d : Nat) {μ : Sto} (s m p : Int) (b : Bool) (f t : Int) : (cfN P (d + 1)).call 33 [lk s m p b, .int f, .int t] μ = .ok (.bl (b && decide (f = p) && decide (t = m))) μ := by
  rw [call_at at_takes d rfl]
  cases b <;> by_cases h : f = p <;> by_cases h2 : t = m <;> simp [f33, entry, List.replicate, lk, L2.atI, L2.ixN, so_sure, so_new, SZ, h, h2]
/-! ### worlds changed -/
/-- plain in a slot -/
def Pl (v : PV) : Prop := OL.plain v = some v
def chM (ws : List PV) (ks : List Ky) (vs : List PV) : List PV := ws.zipIdx.map fun p => (lookK ks vs (.inl (p.2 : Nat))).getD p.1
theorem changed_eq (d : Nat) {μ : Sto} {ws : List PV} {ks : List Ky} {vs : List PV} (hp : ∀ w ∈ ws, Pl w) (hl : ws.length ≤ 100) : (cfN P (d + 1)).call 82 [.tup ws, .dv ks vs] μ = .ok (.tup (chM ws ks vs)) μ := by
  rw [call_at at_changed d rfl]
  have hc : evE (cfN P d) (.comp (.met .get (.var 1) [(.var 2), (.var 3)]) (.tp [(.nm 2), (.nm 3)]) (.enu (.var 0) none) none [2, 3]) [some (.tup ws), some (.dv ks vs), none, none] μ = .ok (.lv (chM ws ks vs)) μ := by
    refine comp_map (src := .enu (.tup ws) 0) (it := fun p : PV × Nat => .tup [.int (0 + p.2), p.1]) (by simp) (wk_enuT μ ws) (fun p hp1 => ?_) (by unfold SZ; simp; omega)
    have hw : OL.plain p.1 = some p.1 := hp _ (List.mem_of_getElem? (zip_mem hp1))
    refine ⟨[some (.tup ws), some (.dv ks vs), some (.int (0 + p.2)), some p.1], by simp [wipeE], ?_⟩
    simp [hw, metOk, metM, keyOf]
  have hz : (chM ws ks vs).length ≤ SZ := by
    unfold chM SZ
    simp
    omega
  simp [f82, entry, List.replicate, hc, bltM, itAll, hz]
theorem with_eq (d : Nat) {μ : Sto} {ws : List PV} {ks : List Ky} {vs : List PV} (hl : ws.length ≤ 100) : (cfN P (d + 1)).call 109 [.tup ws, .dv ks vs] μ = .ok (.tup (chM ws ks vs)) μ := by
  rw [call_at at_with d rfl]
  have hrg : rgOk 0 ws.length 1 = true := by
    unfold rgOk
    simp
    omega
  have hc : evE (cfN P d) (.comp (.ife (.cmp .mem (.var 2) (.var 1)) (.idx (.var 1) (.var 2)) (.idx (.var 0) (.var 2))) (.nm 2) (.rng [(.blt .len [(.var 0)])]) none [2]) [some (.tup ws), some (.dv ks vs), none] μ = .ok (.lv (chM ws ks vs)) μ := by
    have w := wk_rg μ hrg
    have e : (List.range ((ws.length : Int) - 0).toNat).map (fun k : Nat => PV.int (0 + k)) = ws.zipIdx.map fun p => .int (0 + (p.2 : Nat)) := by
      rw [show ((ws.length : Int) - 0).toNat = ws.length by omega]
      apply List.ext_getElem?
      intro i
      simp only [List.getElem?_map, List.getElem?_zipIdx]
      by_cases hi : i < ws.length
      · rw [List.getElem?_range hi, List.getElem?_eq_getElem hi]
        simp
      · rw [List.getElem?_eq_none (by simpa using hi), List.getElem?_eq_none (by simpa using hi)]
        rfl
    rw [e] at w
    refine comp_map (src := .rg 0 ws.length 1) (it := fun p : PV × Nat => .int (0 + p.2)) (by simp [bltM, lenM, rgOf]) w (fun p hp1 => ?_) (by unfold SZ; simp; omega)
    have hg : ws[p.2]? = some p.1 := zip_mem hp1
    have hlt : p.2 < ws.length := (List.getElem?_eq_some_iff.mp hg).1
    refine ⟨[some (.tup ws), some (.dv ks vs), some (.int (0 + p.2))], by simp [wipeE], ?_⟩
    have hm : cmpOp .mem (.int (p.2 : Int)) (.dv ks vs) μ = some (lookK ks vs (.inl (p.2 : Nat))).isSome := rfl
    have hi : idxM μ (.dv ks vs) (.int (p.2 : Int)) = lookK ks vs (.inl (p.2 : Nat)) := rfl
    have ha : L2.atI ws (p.2 : Int) = some p.1 := by
      unfold L2.atI L2.ixN
      rw [if_pos (by omega), if_pos (by omega)]
      simpa using hg
    cases hk : lookK ks vs (.inl (p.2 : Nat)) with
    | none => simp [hm, hi, ha, hk]
    | some x => simp [hm, hi, ha, hk]
  have hz : (chM ws ks vs).length ≤ SZ := by
    unfold chM SZ
    simp
    omega
  simp [f109, entry, List.replicate, hc, bltM, itAll, hz]
end M76
end
section
set_option Elab.async false
set_option linter.all false
set_option maxRecDepth 100000
set_option maxHeartbeats 0
/-! the small worlds, part c: what the boxes' functions tell, state by state. -/
namespace M76
open PySem OL
theorem F_nob (μ : Sto) : osL.map (fun p => (cfN P 12).call 53 [eOb p.1 p.2] μ) = osL.map fun p => Res.ok (eOb p.1 p.2) μ := by kernel_rfl
theorem nob_eq {L : Nat} {s : OS} (h : s ∈ outs L) (μ : Sto) {n : Nat} (hn : 12 ≤ n) : (cfN P n).call 53 [eOb L s] μ = .ok (eOb L s) μ := call_deeper (mapAt (F_nob μ) (os_mem h)) (fun z => by cases z) hn
theorem F_tk (μ : Sto) : osL.map (fun p => (cfN P 12).call 60 [eOb p.1 p.2, .int 1] μ) = osL.map fun p => Res.ok (takeV p.1 p.2) μ := by kernel_rfl
theorem tk_eq {L : Nat} {s : OS} (h : s ∈ outs L) (μ : Sto) {n : Nat} (hn : 12 ≤ n) : (cfN P n).call 60 [eOb L s, .int 1] μ = .ok (takeV L s) μ := call_deeper (mapAt (F_tk μ) (os_mem h)) (fun z => by cases z) hn
theorem F_un (μ : Sto) : osL.map (fun p => evE (cfN P 12) (.call 46 [(.call 41 [(.idx (.var 0) (.con (.int (4)))), (.idx (.var 0) (.con (.int (5))))]), (.idx (.var 0) (.con (.int (0)))), (.idx (.var 0) (.con (.int (3))))]) [some (eOb p.1 p.2)] μ) = osL.map fun p => Res.ok (.tup ((rngs (underT p.2)).map rg2)) μ := by kernel_rfl
theorem un_eq {L : Nat} {s : OS} (h : s ∈ outs L) (μ : Sto) {n : Nat} (hn : 12 ≤ n) : evE (cfN P n) (.call 46 [(.call 41 [(.idx (.var 0) (.con (.int (4)))), (.idx (.var 0) (.con (.int (5))))]), (.idx (.var 0) (.con (.int (0)))), (.idx (.var 0) (.con (.int (3))))]) [some (eOb L s)] μ = .ok (.tup ((rngs (underT s)).map rg2)) μ := ev_deeper (mapAt (F_un μ) (os_mem h)) (fun z => by cases z) hn
theorem F_lo (μ : Sto) : osL.map (fun p => match rngs (underT p.2) with
    | [(a, b)] => (cfN P 12).call 67 [eOb p.1 p.2, nat a, nat b] μ
    | _ => .err) = osL.map fun p => match rngs (underT p.2) with
    | [(a, b)] => .ok (eOb p.1 (loseT p.2)) μ
    | _ => .err := by kernel_rfl
theorem lo_eq {L : Nat} {s : OS} (h : s ∈ outs L) {a b : Nat} (e : rngs (underT s) = [(a, b)]) (μ : Sto) {n : Nat} (hn : 12 ≤ n) : (cfN P n).call 67 [eOb L s, nat a, nat b] μ = .ok (eOb L (loseT s)) μ := by
  have g := mapAt (F_lo μ) (os_mem h)
  simp only [e] at g
  exact call_deeper g (fun z => by cases z) hn
theorem F_had (μ : Sto) : osH.map (fun p => (cfN P 12).call 65 [eOb p.1 p.2.1, nat p.2.2] μ) = osH.map fun p => Res.ok (eOb p.1 (hadT p.2.1 p.2.2)) μ := by kernel_rfl
theorem had_eq {L : Nat} {s : OS} (h : s ∈ outs L) {k : Nat} (hk : k ≤ s.n) (μ : Sto) {n : Nat} (hn : 12 ≤ n) : (cfN P n).call 65 [eOb L s, nat k] μ = .ok (eOb L (hadT s k)) μ := call_deeper (mapAt (F_had μ) (osH_mem h hk)) (fun z => by cases z) hn
theorem F_ltk (μ : Sto) : osL.map (fun p => (cfN P 12).call 112 [eBox p.2, nat p.1] μ) = osL.map fun p => Res.ok (oN ((takeT p.1 p.2).map (·.1))) μ := by kernel_rfl
theorem ltk_eq {L : Nat} {s : OS} (h : s ∈ outs L) (μ : Sto) {n : Nat} (hn : 12 ≤ n) : (cfN P n).call 112 [eBox s, nat L] μ = .ok (oN ((takeT L s).map (·.1))) μ := call_deeper (mapAt (F_ltk μ) (os_mem h)) (fun z => by cases z) hn
theorem F_lun (μ : Sto) : osL.map (fun p => (cfN P 12).call 114 [eBox p.2] μ) = osL.map fun p => Res.ok (nats (underT p.2)) μ := by kernel_rfl
theorem lun_eq {L : Nat} {s : OS} (h : s ∈ outs L) (μ : Sto) {n : Nat} (hn : 12 ≤ n) : (cfN P n).call 114 [eBox s] μ = .ok (nats (underT s)) μ := call_deeper (mapAt (F_lun μ) (os_mem h)) (fun z => by cases z) hn
/-! ### inboxes -/
theorem F_nib (μ : Sto) : isL.map (fun p => (cfN P 12).call 13 [eIb p.2.1 p.2.2] μ) = isL.map fun p => Res.ok (eIb p.2.1 p.2.2) μ := by kernel_rfl
theorem nib_eq {L r : Nat} {s : IS} (h : s ∈ ins L r) (μ : Sto) {n : Nat} (hn : 12 ≤ n) : (cfN P n).call 13 [eIb r s] μ = .ok (eIb r s) μ := call_deeper (mapAt (F_nib μ) (is_mem h)) (fun z => by cases z) hn
theorem F_rdb (μ : Sto) : isL.map (fun p => (cfN P 12).call 20 [eIb p.2.1 p.2.2] μ) = isL.map fun p => Res.ok (nat (rdbT p.2.2)) μ := by kernel_rfl
theorem rdb_eq {L r : Nat} {s : IS} (h : s ∈ ins L r) (μ : Sto) {n : Nat} (hn : 12 ≤ n) : (cfN P n).call 20 [eIb r s] μ = .ok (nat (rdbT s)) μ := call_deeper (mapAt (F_rdb μ) (is_mem h)) (fun z => by cases z) hn
theorem F_hv (μ : Sto) : isL.map (fun p => (cfN P 12).call 22 [eIb p.2.1 p.2.2] μ) = isL.map fun p => Res.ok (nat (haveT p.2.2)) μ := by kernel_rfl
theorem hv_eq {L r : Nat} {s : IS} (h : s ∈ ins L r) (μ : Sto) {n : Nat} (hn : 12 ≤ n) : (cfN P n).call 22 [eIb r s] μ = .ok (nat (haveT s)) μ := call_deeper (mapAt (F_hv μ) (is_mem h)) (fun z => by cases z) hn
theorem F_lhv (μ : Sto) : isL.map (fun p => (cfN P 12).call 113 [eIn p.2.2] μ) = isL.map fun p => Res.ok (nat (haveT p.2.2)) μ := by kernel_rfl
theorem lhv_eq {L r : Nat} {s : IS} (h : s ∈ ins L r) (μ : Sto) {n : Nat} (hn : 12 ≤ n) : (cfN P n).call 113 [eIn s] μ = .ok (nat (haveT s)) μ := call_deeper (mapAt (F_lhv μ) (is_mem h)) (fun z => by cases z) hn
theorem F_rd (μ : Sto) : (isL.filter fun p => p.2.2.held.contains p.2.2.rd).map (fun p => (cfN P 12).call 24 [eIb p.2.1 p.2.2, .int 1] μ) = (isL.filter fun p => p.2.2.held.contains p.2.2.rd).map fun p => Res.ok (.tup [eIb p.2.1 (readT p.2.2), nats [p.2.2.rd], .bl (decide (p.2.2.stop = some (p.2.2.rd + 1)))]) μ := by kernel_rfl
theorem rd_eq {L r : Nat} {s : IS} (h : s ∈ ins L r) (hr : s.held.contains s.rd = true) (μ : Sto) {n : Nat} (hn : 12 ≤ n) : (cfN P n).call 24 [eIb r s, .int 1] μ = .ok (.tup [eIb r (readT s), nats [s.rd], .bl (decide (s.stop = some (s.rd + 1)))]) μ := call_deeper (mapAt (F_rd μ) (List.mem_filter.mpr ⟨is_mem h, hr⟩)) (fun z => by cases z) hn
theorem F_pc (μ : Sto) : isP.map (fun p => (cfN P 12).call 5 [ePc p.2.2.2] μ) = isP.map fun p => Res.ok (ePc p.2.2.2) μ := by kernel_rfl
theorem pc_eq {L r : Nat} {s : IS} (h : s ∈ ins L r) {c : Pc} (hc : c ∈ pcs L) (μ : Sto) {n : Nat} (hn : 12 ≤ n) : (cfN P n).call 5 [ePc c] μ = .ok (ePc c) μ := call_deeper (mapAt (F_pc μ) (isP_mem h hc)) (fun z => by cases z) hn
theorem F_put (μ : Sto) : isP.map (fun p => (cfN P 12).call 18 [eIb p.2.1 p.2.2.1, ePc p.2.2.2] μ) = isP.map fun p => putV p.2.1 p.2.2.1 p.2.2.2 μ := by kernel_rfl
theorem put_eq {L r : Nat} {s : IS} (h : s ∈ ins L r) {c : Pc} (hc : c ∈ pcs L) (μ : Sto) {n : Nat} (hn : 12 ≤ n) : (cfN P n).call 18 [eIb r s, ePc c] μ = putV r s c μ := call_deeper (mapAt (F_put μ) (isP_mem h hc)) (putV_ok r s c μ) hn
theorem F_fed (μ : Sto) : isP.map (fun p => (cfN P 12).call 117 [eIn p.2.2.1, ePc p.2.2.2] μ) = isP.map fun p => Res.ok (eIn (fedT p.2.2.1 p.2.2.2)) μ := by kernel_rfl
theorem fed_eq {L r : Nat} {s : IS} (h : s ∈ ins L r) {c : Pc} (hc : c ∈ pcs L) (μ : Sto) {n : Nat} (hn : 12 ≤ n) : (cfN P n).call 117 [eIn s, ePc c] μ = .ok (eIn (fedT s c)) μ := call_deeper (mapAt (F_fed μ) (isP_mem h hc)) (fun z => by cases z) hn
theorem F_agr (μ : Sto) : isL.map (fun p => (cfN P 12).call 94 [eIb p.2.1 p.2.2, nat p.1] μ) = isL.map fun p => Res.ok (.bl (!t6 p.1 p.2.2)) μ := by kernel_rfl
theorem agr_eq {L r : Nat} {s : IS} (h : s ∈ ins L r) (μ : Sto) {n : Nat} (hn : 12 ≤ n) : (cfN P n).call 94 [eIb r s, nat L] μ = .ok (.bl (!t6 L s)) μ := call_deeper (mapAt (F_agr μ) (is_mem h)) (fun z => by cases z) hn
theorem F_hu (μ : Sto) : isL.map (fun p => (cfN P 12).call 71 [eIb p.2.1 p.2.2, nat p.1] μ) = isL.map fun p => Res.ok (nat (huT p.1 p.2.2)) μ := by kernel_rfl
theorem hu_eq {L r : Nat} {s : IS} (h : s ∈ ins L r) (μ : Sto) {n : Nat} (hn : 12 ≤ n) : (cfN P n).call 71 [eIb r s, nat L] μ = .ok (nat (huT L s)) μ := call_deeper (mapAt (F_hu μ) (is_mem h)) (fun z => by cases z) hn
theorem F_l6 (μ : Sto) : isL.map (fun p => cmpOp .nmem (oN p.2.2.stop) (.tup [.non, nat p.1]) μ) = isL.map fun p => some (!(p.2.2.stop == none || p.2.2.stop == some p.1)) := by kernel_rfl
theorem l6_eq {L r : Nat} {s : IS} (h : s ∈ ins L r) (μ : Sto) : cmpOp .nmem (oN s.stop) (.tup [.non, nat L]) μ = some (!(s.stop == none || s.stop == some L)) := mapAt (F_l6 μ) (is_mem h)
theorem F_l7 (μ : Sto) (v0 v1 v2 v3 v4 v5 v6 v7 v8 v9 v10 v12 v14 v15 v16 v17 : Option PV) : isL.map (fun p => evE (cfN P 12) (.cmp .ne (.comp (.var 17) (.nm 17) (.var 11) (some (.cmp .ge (.var 17) (.var 13))) [17]) (.lst [])) [v0, v1, v2, v3, v4, v5, v6, v7, v8, v9, v10, some (nats p.2.2.held), v12, some (nat p.2.2.gr), v14, v15, v16, v17] μ) = isL.map fun p => Res.ok (.bl (p.2.2.held.any fun x => decide (p.2.2.gr ≤ x))) μ := by kernel_rfl
theorem F_p7 (μ : Sto) (v0 v1 v2 v3 v5 v6 v7 v8 v9 v10 : Option PV) : isL.map (fun p => evE (cfN P 12) (.blt .any [(.comp (.cmp .gt (.bin .add (.var 8) (.blt .len [(.var 9)])) (.idx (.var 4) (.con (.int (4))))) (.tp [(.nm 8), (.nm 9)]) (.idx (.var 4) (.con (.int (1)))) none [8, 9])]) [v0, v1, v2, v3, some (eIb p.2.1 p.2.2), v5, v6, v7, v8, v9, v10] μ) = isL.map fun p => Res.ok (.bl (p.2.2.held.any fun x => decide (p.2.2.gr ≤ x))) μ := by kernel_rfl
/-! ### the first boxes -/
theorem F_fo (μ : Sto) (v1 v2 : Option PV) : [0, 1, 2].map (fun L => evE (cfN P 14) (.call 56 [(.call 54 [(.call 48 [(.con (.int (0)))]), (.blt .tuple [.rng [(.var 0)]])])]) [some (nat L), v1, v2] μ) = [0, 1, 2].map fun L => Res.ok (eOb L ⟨0, 0, [], 0⟩) μ := by kernel_rfl
theorem F_ib (μ : Sto) : [1, 2].map (fun r => (cfN P 12).call 6 [nat r] μ) = [1, 2].map fun r => Res.ok (eIb r ⟨0, [], none, 0⟩) μ := by kernel_rfl
end M76
end
section
set_option Elab.async false
set_option linter.all false
set_option maxRecDepth 100000
set_option maxHeartbeats 4000000
/-! the small worlds, part d: boxes by their functions, worlds by their places. -/
namespace M76
open PySem OL
theorem at_need_number : P.funs[2]? = some f2 := fun_at defs_eq _ rfl
theorem at_is_within : P.funs[1]? = some f1 := fun_at defs_eq _ rfl
theorem at_is_whole : P.funs[0]? = some f0 := fun_at defs_eq _ rfl
theorem at_out_take : P.funs[59]? = some f59 := fun_at defs_eq _ rfl
theorem at_out_under : P.funs[70]? = some f70 := fun_at defs_eq _ rfl
theorem at_out_lost : P.funs[66]? = some f66 := fun_at defs_eq _ rfl
theorem at_need_places : P.funs[62]? = some f62 := fun_at defs_eq _ rfl
theorem at_out_had : P.funs[64]? = some f64 := fun_at defs_eq _ rfl
theorem at_out_roomed : P.funs[68]? = some f68 := fun_at defs_eq _ rfl
theorem at_out_roomed_at : P.funs[69]? = some f69 := fun_at defs_eq _ rfl
theorem at_in_readable : P.funs[19]? = some f19 := fun_at defs_eq _ rfl
theorem at_in_have : P.funs[21]? = some f21 := fun_at defs_eq _ rfl
theorem at_in_read : P.funs[23]? = some f23 := fun_at defs_eq _ rfl
theorem at_in_put : P.funs[17]? = some f17 := fun_at defs_eq _ rfl
theorem at_in_grant : P.funs[26]? = some f26 := fun_at defs_eq _ rfl
theorem at_in_grant_at : P.funs[27]? = some f27 := fun_at defs_eq _ rfl
theorem at_in_limit_at : P.funs[25]? = some f25 := fun_at defs_eq _ rfl
theorem at_full_outbox : P.funs[79]? = some f79 := fun_at defs_eq _ rfl
theorem glo_eq (d n : Nat) : (cfN P d).glo n = P.glos.getD n .non := by cases d <;> rfl
theorem glo0 : P.glos.getD 0 .non = .int 1152921504606846976 := by kernel_rfl
theorem glo1 : P.glos.getD 1 .non = .int 1048576 := by kernel_rfl
@[simp] theorem glo_0 (d : Nat) : (cfN P d).glo 0 = .int 1152921504606846976 := (glo_eq d 0).trans glo0
@[simp] theorem glo_1 (d : Nat) : (cfN P d).glo 1 = .int 1048576 := (glo_eq d 1).trans glo1
@[simp] theorem dis_ob (L : Nat) (s : OS) : disown (eOb L s) = eOb L s := rfl
@[simp] theorem dis_ib (r : Nat) (s : IS) : disown (eIb r s) = eIb r s := rfl
@[simp] theorem dis_box (s : OS) : disown (eBox s) = eBox s := rfl
@[simp] theorem dis_in (s : IS) : disown (eIn s) = eIn s := rfl
@[simp] theorem pl_ob (L : Nat) (s : OS) : OL.plain (eOb L s) = some (eOb L s) := rfl
@[simp] theorem pl_ib (r : Nat) (s : IS) : OL.plain (eIb r s) = some (eIb r s) := rfl
@[simp] theorem pl_box (s : OS) : OL.plain (eBox s) = some (eBox s) := rfl
@[simp] theorem pl_in (s : IS) : OL.plain (eIn s) = some (eIn s) := rfl
theorem dis_takeV (L : Nat) (s : OS) : disown (takeV L s) = takeV L s := by
  unfold takeV
  cases takeT L s <;> rfl
theorem nn_eq (d : Nat) (x a b : Int) (h : a ≤ x) (h2 : x ≤ b) (μ : Sto) : (cfN P (d + 3)).call 2 [.int x, .int a, .int b] μ = .ok (.int x) μ := by
  have e0 : (cfN P (d + 1)).call 0 [.int x] μ = .ok (.bl true) μ := by
    rw [call_at at_is_whole d rfl]
    simp [f0, entry, List.replicate, tyOf]
  have e1 : (cfN P (d + 2)).call 1 [.int x, .int a, .int b] μ = .ok (.bl true) μ := by
    rw [call_at at_is_within (d + 1) rfl]
    simp [f1, entry, List.replicate, e0, h, h2]
  rw [call_at at_need_number (d + 2) rfl]
  simp [f2, entry, List.replicate, e1]
theorem take_eq (d : Nat) {L : Nat} {s : OS} (h : s ∈ outs L) (μ : Sto) : (cfN P (d + 13)).call 59 [eOb L s, .int 1] μ = .ok (takeV L s) μ := by
  rw [call_at at_out_take (d + 12) rfl]
  have pl : OL.plain (eOb L s) = some (eOb L s) := rfl
  simp [f59, entry, List.replicate, nob_eq h μ (n := d + 12) (by omega), tk_eq h μ (n := d + 12) (by omega), dis_takeV, nn_eq (d + 9) 1 1 1048576 (by decide) (by decide), pl]
theorem under_eq (d : Nat) {L : Nat} {s : OS} (h : s ∈ outs L) (μ : Sto) : (cfN P (d + 13)).call 70 [eOb L s] μ = .ok (.tup ((rngs (underT s)).map rg2)) μ := by
  rw [call_at at_out_under (d + 12) rfl]
  have pl : OL.plain (eOb L s) = some (eOb L s) := rfl
  have u := un_eq h μ (n := d + 12) (by omega)
  have e0 : evS (cfN P (d + 12)) (.expr (.call 53 [.var 0])) [some (eOb L s)] μ = .ok .nx [some (eOb L s)] μ := by
    simp [pl, nob_eq h μ (n := d + 12) (by omega)]
  show outR (evSs (cfN P (d + 12)) (_ :: _ :: []) [some (eOb L s)] μ) = _
  rw [st_cons, e0]
  show outR (evSs (cfN P (d + 12)) (_ :: []) [some (eOb L s)] μ) = _
  rw [st_cons, st_ret _ _ _ _ _ (fun i z => by cases z), u]
  rfl
theorem lost_eq (d : Nat) {L : Nat} {s : OS} (h : s ∈ outs L) {a b : Nat} (e : rngs (underT s) = [(a, b)]) (ha : a < b) (hb : b ≤ s.n) (μ : Sto) : (cfN P (d + 13)).call 66 [eOb L s, nat a, nat b] μ = .ok (eOb L (loseT s)) μ := by
  rw [call_at at_out_lost (d + 12) rfl]
  have pl : OL.plain (eOb L s) = some (eOb L s) := rfl
  have i3 : idxM μ (eOb L s) (.int 3) = some (.int s.n) := rfl
  have g := lo_eq h e μ (n := d + 12) (by omega)
  have g2 : (cfN P (d + 12)).call 62 [eOb L s, nat a, nat b] μ = .ok .non μ := by
    rw [call_at at_need_places (d + 11) rfl]
    simp [f62, entry, List.replicate, pl, i3, nat, nn_eq (d + 8) (a : Int) 0 ((s.n : Int) - 1) (by omega) (by omega) μ, nn_eq (d + 8) (b : Int) ((a : Int) + 1) (s.n : Int) (by omega) (by omega) μ]
  simp only [nat] at g g2 ⊢
  simp [f66, entry, List.replicate, nob_eq h μ (n := d + 12) (by omega), g, g2, pl]
theorem hadO_eq (d : Nat) {L : Nat} {s : OS} (h : s ∈ outs L) {k : Nat} (hk : k ≤ s.n) (μ : Sto) : (cfN P (d + 13)).call 64 [eOb L s, nat k] μ = .ok (eOb L (hadT s k)) μ := by
  rw [call_at at_out_had (d + 12) rfl]
  have pl : OL.plain (eOb L s) = some (eOb L s) := rfl
  have i3 : idxM μ (eOb L s) (.int 3) = some (.int s.n) := rfl
  have g := had_eq h hk μ (n := d + 12) (by omega)
  simp only [nat] at g ⊢
  simp [f64, entry, List.replicate, nob_eq h μ (n := d + 12) (by omega), g, pl, i3, nn_eq (d + 9) (k : Int) 0 (s.n : Int) (by omega) (by omega) μ]
theorem roomedO_eq (d : Nat) {L : Nat} {s : OS} (h : s ∈ outs L) {k : Nat} (hk : k ≤ 100) (μ : Sto) : (cfN P (d + 13)).call 68 [eOb L s, nat k] μ = .ok (eOb L (roomT s k)) μ := by
  rw [call_at at_out_roomed (d + 12) rfl]
  have pl : OL.plain (eOb L s) = some (eOb L s) := rfl
  have i6 : idxM μ (eOb L s) (.int 6) = some (.int s.lim) := rfl
  have g : (cfN P (d + 12)).call 69 [eOb L s, nat k] μ = .ok (eOb L (roomT s k)) μ := by
    rw [call_at at_out_roomed_at (d + 11) rfl]
    have mx : bltM .max [PV.int (s.lim : Int), PV.int (k : Int)] μ = .ok (nat (max s.lim k)) μ := by
      show Res.ok (PV.int (max (s.lim : Int) (k : Int))) μ = _
      rw [show max (s.lim : Int) (k : Int) = ((max s.lim k : Nat) : Int) by omega]
      rfl
    have c6 : cutM (eOb L s) none (some 6) = some (.tup [nat (min s.k L), nats (upTo (min s.k L) L), .bl true, nat s.n, .tup (if L < s.k then [rg2 (L, L + 1)] else []), .tup ((rngs s.lost).map rg2)]) := rfl
    simp only [nat] at mx
    simp [f69, entry, List.replicate, pl, i6, nat, mx, c6, add_tup, SZ]
    rfl
  simp only [nat] at g ⊢
  simp [f68, entry, List.replicate, nob_eq h μ (n := d + 12) (by omega), g, pl, nn_eq (d + 9) (k : Int) 0 1152921504606846976 (by omega) (by omega) μ]
/-! ### inboxes -/
@[simp] theorem dis_nat (n : Nat) : disown (nat n) = nat n := rfl
@[simp] theorem pl_nat (n : Nat) : OL.plain (nat n) = some (nat n) := rfl
theorem readable_eq (d : Nat) {L r : Nat} {s : IS} (h : s ∈ ins L r) (μ : Sto) : (cfN P (d + 13)).call 19 [eIb r s] μ = .ok (nat (rdbT s)) μ := by
  rw [call_at at_in_readable (d + 12) rfl]
  simp [f19, entry, List.replicate, nib_eq h μ (n := d + 12) (by omega), rdb_eq h μ (n := d + 12) (by omega)]
theorem have_eq (d : Nat) {L r : Nat} {s : IS} (h : s ∈ ins L r) (μ : Sto) : (cfN P (d + 13)).call 21 [eIb r s] μ = .ok (nat (haveT s)) μ := by
  rw [call_at at_in_have (d + 12) rfl]
  simp [f21, entry, List.replicate, nib_eq h μ (n := d + 12) (by omega), hv_eq h μ (n := d + 12) (by omega)]
theorem read_eq (d : Nat) {L r : Nat} {s : IS} (h : s ∈ ins L r) (hr : s.held.contains s.rd = true) (μ : Sto) : (cfN P (d + 13)).call 23 [eIb r s, .int 1] μ = .ok (.tup [eIb r (readT s), nats [s.rd], .bl (decide (s.stop = some (s.rd + 1)))]) μ := by
  rw [call_at at_in_read (d + 12) rfl]
  simp [f23, entry, List.replicate, nib_eq h μ (n := d + 12) (by omega), rd_eq h hr μ (n := d + 12) (by omega), nn_eq (d + 9) 1 0 1048576 (by decide) (by decide)]
theorem putO_eq (d : Nat) {L r : Nat} {s : IS} (h : s ∈ ins L r) {c : Pc} (hc : c ∈ pcs L) (μ : Sto) : (cfN P (d + 13)).call 17 [eIb r s, ePc c] μ = putV r s c μ := by
  rw [call_at at_in_put (d + 12) rfl]
  have pl : OL.plain (ePc c) = some (ePc c) := rfl
  have g := put_eq h hc μ (n := d + 12) (by omega)
  unfold putV at g ⊢
  cases e : badW s c with
  | none =>
    simp only [e] at g
    simp [f17, entry, List.replicate, nib_eq h μ (n := d + 12) (by omega), pc_eq h hc μ (n := d + 12) (by omega), g, pl]
  | some x =>
    simp only [e] at g
    simp [f17, entry, List.replicate, nib_eq h μ (n := d + 12) (by omega), pc_eq h hc μ (n := d + 12) (by omega), g, pl]
    rfl
theorem grant_eq (d : Nat) {L r : Nat} {s : IS} (h : s ∈ ins L r) (μ : Sto) : (cfN P (d + 13)).call 26 [eIb r s] μ = .ok (.tup [eIb r (grantT r s), nat (s.rd + r)]) μ := by
  have hb := (grant_in h).2.1
  have hr := (ins_lt h)
  have g : (cfN P (d + 12)).call 27 [eIb r s] μ = .ok (.tup [eIb r (grantT r s), nat (s.rd + r)]) μ := by
    have i0 : idxM μ (eIb r s) (.int 0) = some (.int s.rd) := rfl
    have i3 : idxM μ (eIb r s) (.int 3) = some (.int r) := rfl
    have c4 : cutM (eIb r s) none (some 4) = some (.tup [nat s.rd, .tup ((rngs s.held).map fun p => .tup [nat p.1, nats (upTo p.1 p.2)]), oN s.stop, nat r]) := rfl
    have mn : bltM .min [PV.int ((s.rd : Int) + (r : Int)), PV.int 1152921504606846976] μ = .ok (PV.int ((s.rd + r : Nat) : Int)) μ := by
      show Res.ok (PV.int (min ((s.rd : Int) + (r : Int)) 1152921504606846976)) μ = _
      rw [show min ((s.rd : Int) + (r : Int)) 1152921504606846976 = ((s.rd + r : Nat) : Int) by omega]
    have g0 : (cfN P (d + 11)).call 25 [eIb r s] μ = .ok (nat (s.rd + r)) μ := by
      rw [call_at at_in_limit_at (d + 10) rfl]
      simp [f25, entry, List.replicate, i0, i3, mn]
      rfl
    rw [call_at at_in_grant_at (d + 11) rfl]
    simp [f27, entry, List.replicate, g0, c4, add_tup, SZ]
    rfl
  rw [call_at at_in_grant (d + 12) rfl]
  simp [f26, entry, List.replicate, nib_eq h μ (n := d + 12) (by omega), g]
def lim0 (L : Nat) (r : Str) : Nat := if rIs r "limit" = true then L else 0
theorem full_eq (d : Nat) {L : Nat} (hL : L ≤ 2) {r : Str} (hr : SOk r) (μ : Sto) : (cfN P (d + 15)).call 79 [nat L, .str r] μ = .ok (eOb L ⟨0, 0, [], lim0 L r⟩) μ := by
  rw [call_at at_full_outbox (d + 14) rfl]
  have m : L ∈ [0, 1, 2] := by simp; omega
  have f := ev_deeper (mapAt (F_fo μ none none) m) (fun z => by cases z) (n := d + 14) (by omega)
  have f2 := mapAt (F_fo μ (some (.str r)) none) m
  have f3 := ev_deeper f2 (fun z => by cases z) (n := d + 14) (by omega)
  have g := roomedO_eq (d + 1) (out0_in hL).1 (k := L) (by omega) μ
  have e0 : evS (cfN P (d + 14)) (.asg (.nm 2) (.call 56 [(.call 54 [(.call 48 [(.con (.int (0)))]), (.blt .tuple [.rng [(.var 0)]])])])) [some (nat L), some (.str r), none] μ = .ok .nx [some (nat L), some (.str r), some (eOb L ⟨0, 0, [], 0⟩)] μ := by
    rw [st_asg, f3]
    rfl
  show outR (evSs (cfN P (d + 14)) (_ :: _ :: []) [some (nat L), some (.str r), none] μ) = _
  rw [st_cons, e0]
  show outR (evSs (cfN P (d + 14)) (_ :: []) [some (nat L), some (.str r), some (eOb L ⟨0, 0, [], 0⟩)] μ) = _
  cases h : rIs r "limit" <;> simp [hr, so_limit, h, g, lim0, roomT]
end M76
end
section
set_option Elab.async false
set_option linter.all false
set_option maxRecDepth 100000
set_option maxHeartbeats 4000000
/-! the small worlds, part e: the program's deeds. -/
namespace M76
open PySem OL
theorem at_letters_for : P.funs[81]? = some f81 := fun_at defs_eq _ rfl
theorem at_hearing_stream_deeds : P.funs[85]? = some f85 := fun_at defs_eq _ rfl
theorem at_stream_deeds : P.funs[86]? = some f86 := fun_at defs_eq _ rfl
/-! ### worlds by their places -/
def lkv (l : Lk) (s : Bool) : PV := lk (sd s) l.m l.p l.b
@[simp] theorem pl_lkv (l : Lk) (s : Bool) : OL.plain (lkv l s) = some (lkv l s) := rfl
@[simp] theorem dis_lkv (l : Lk) (s : Bool) : disown (lkv l s) = lkv l s := rfl
@[simp] theorem lkv_1 (l : Lk) (s : Bool) (μ : Sto) : idxM μ (lkv l s) (.int 1) = some (.int l.m) := rfl
@[simp] theorem lkv_2 (l : Lk) (s : Bool) (μ : Sto) : idxM μ (lkv l s) (.int 2) = some (.int l.p) := rfl
@[simp] theorem lkv_3 (l : Lk) (s : Bool) (μ : Sto) : idxM μ (lkv l s) (.int 3) = some (.str (ph l.b)) := rfl
@[simp] theorem lkv_c (l : Lk) (s : Bool) : cutM (lkv l s) (some 1) (some 3) = some (e2 l.m l.p) := rfl
def pwL (L r : Nat) (w : W) : List PV := [lkv w.l0 false, lkv w.l1 true, eOb L w.o, eIb r w.i, .tup w.g0, .tup w.g1, .tup w.s6, .tup w.s7, .tup w.s8]
def pw (L r : Nat) (w : W) : PV := .tup (pwL L r w)
def lwL (w : W) : List PV := [lkv w.l0 false, lkv w.l1 true, eBox w.o, eIn w.i, .tup w.g0, .tup w.g1, .tup w.s6, .tup w.s7, .tup w.s8]
def lw (w : W) : PV := .tup (lwL w)
section
variable (L r : Nat) (w : W) (μ : Sto)
@[simp] theorem pl_pw : OL.plain (pw L r w) = some (pw L r w) := rfl
@[simp] theorem dis_pw : disown (pw L r w) = pw L r w := rfl
@[simp] theorem pw_0 : idxM μ (pw L r w) (.int 0) = some (lkv w.l0 false) := rfl
@[simp] theorem pw_1 : idxM μ (pw L r w) (.int 1) = some (lkv w.l1 true) := rfl
@[simp] theorem pw_s (s : Bool) : idxM μ (pw L r w) (.int (sd s)) = some (lkv (W.lk w s) s) := by cases s <;> rfl
@[simp] theorem pw_2 : idxM μ (pw L r w) (.int 2) = some (eOb L w.o) := rfl
@[simp] theorem pw_3 : idxM μ (pw L r w) (.int 3) = some (eIb r w.i) := rfl
@[simp] theorem pw_4 : idxM μ (pw L r w) (.int 4) = some (.tup w.g0) := rfl
@[simp] theorem pw_5 : idxM μ (pw L r w) (.int 5) = some (.tup w.g1) := rfl
@[simp] theorem pw_6 : idxM μ (pw L r w) (.int 6) = some (.tup w.s6) := rfl
@[simp] theorem pw_7 : idxM μ (pw L r w) (.int 7) = some (.tup w.s7) := rfl
@[simp] theorem pw_8 : idxM μ (pw L r w) (.int 8) = some (.tup w.s8) := rfl
@[simp] theorem pl_lw : OL.plain (lw w) = some (lw w) := rfl
@[simp] theorem dis_lw : disown (lw w) = lw w := rfl
@[simp] theorem lw_0 : idxM μ (lw w) (.int 0) = some (lkv w.l0 false) := rfl
@[simp] theorem lw_1 : idxM μ (lw w) (.int 1) = some (lkv w.l1 true) := rfl
@[simp] theorem lw_s (s : Bool) : idxM μ (lw w) (.int (sd s)) = some (lkv (W.lk w s) s) := by cases s <;> rfl
@[simp] theorem lw_2 : idxM μ (lw w) (.int 2) = some (eBox w.o) := rfl
@[simp] theorem lw_3 : idxM μ (lw w) (.int 3) = some (eIn w.i) := rfl
@[simp] theorem lw_4 : idxM μ (lw w) (.int 4) = some (.tup w.g0) := rfl
@[simp] theorem lw_5 : idxM μ (lw w) (.int 5) = some (.tup w.g1) := rfl
@[simp] theorem lw_6 : idxM μ (lw w) (.int 6) = some (.tup w.s6) := rfl
@[simp] theorem lw_7 : idxM μ (lw w) (.int 7) = some (.tup w.s7) := rfl
@[simp] theorem lw_8 : idxM μ (lw w) (.int 8) = some (.tup w.s8) := rfl
end
theorem letters_eq (d : Nat) {L r k : Nat} {w : W} (h : WOk L r k w) (hk : k ≤ 100) (s : Bool) (μ : Sto) : (cfN P (d + 1)).call 81 [pw L r w, .int (sd s)] μ = .ok (.lv ((hearL w s).map eLp)) μ := by
  rw [call_at at_letters_for d rfl]
  have z := h.n0
  have z1 := h.n1
  have z6 := h.n6
  have z7 := h.n7
  show outR (evSs (cfN P d) (_ :: []) [some (pw L r w), some (.int (sd s)), none, none] μ) = _
  cases s with
  | true =>
    have a1 := lets_comp (cf := cfN P d) (o0 := some (pw L r w)) (env := [some (PV.int (sd true)), none, none]) (μ := μ) (i := 2) (e := .idx (.var 0) (.bin .sub (.con (.int (5))) (.var 1))) (l := w.g0) (x := "greet") (by simp) (by simp) (by simp [sd]) (by omega) h.g0.r0
    have a2 := lets_comp (cf := cfN P d) (o0 := some (pw L r w)) (env := [some (PV.int (sd true)), none, none]) (μ := μ) (i := 3) (e := .idx (.var 0) (.bin .sub (.con (.int (7))) (.var 1))) (l := w.s6) (x := "more") (by simp) (by simp) (by simp [sd]) (by omega) h.s6.r0
    have hz : w.g0.length + w.s6.length ≤ 16777216 := by omega
    simp [a1, a2, add_lv, newL, SZ, hearL, eLp, w2, hz, Function.comp_def]
  | false =>
    have a1 := lets_comp (cf := cfN P d) (o0 := some (pw L r w)) (env := [some (PV.int (sd false)), none, none]) (μ := μ) (i := 2) (e := .idx (.var 0) (.bin .sub (.con (.int (5))) (.var 1))) (l := w.g1) (x := "greet") (by simp) (by simp) (by simp [sd]) (by omega) h.g1.r0
    have a2 := lets_comp (cf := cfN P d) (o0 := some (pw L r w)) (env := [some (PV.int (sd false)), none, none]) (μ := μ) (i := 3) (e := .idx (.var 0) (.bin .sub (.con (.int (7))) (.var 1))) (l := w.s7) (x := "more") (by simp) (by simp) (by simp [sd]) (by omega) h.s7.r0
    have hz : w.g1.length + w.s7.length ≤ 16777216 := by omega
    simp [a1, a2, add_lv, newL, SZ, hearL, eLp, w2, hz, Function.comp_def]
theorem atI_1 (a b : PV) (l : List PV) : L2.atI (a :: b :: l) 1 = some b := by
  unfold L2.atI L2.ixN
  rw [if_pos (by decide), if_pos (by simp only [List.length_cons]; omega)]
  rfl
theorem atI_2 (a b c : PV) (l : List PV) : L2.atI (a :: b :: c :: l) 2 = some c := by
  unfold L2.atI L2.ixN
  rw [if_pos (by decide), if_pos (by simp only [List.length_cons]; omega)]
  rfl
theorem isNon_oLk (s : Int) (x : Option (Int × Int × Bool)) : isNon (oLk s x) = x.isNone := by
  cases x <;> rfl
theorem dis_oLk (s : Int) (x : Option (Int × Int × Bool)) : disown (oLk s x) = oLk s x := by
  cases x <;> rfl
/-- the deeds of hearing -/
def hearB (r : Str) (b0 b1 : Int) (w : W) (s : Bool) (q : Lt) : Bool := (heardM r (W.lk w s).m (W.lk w s).p (W.lk w s).b (ltA q.2) (ltC q.2)).isSome || leftM s (W.lk w s).m b0 b1
def dHear (s : Bool) (n : Nat) : PV := .tup [.str "hear", .int (sd s), nat n]
def hearP (r : Str) (b0 b1 : Int) (w : W) (s : Bool) : List PV := (hearL w s).zipIdx.flatMap fun p => cond (hearB r b0 b1 w s p.1) [dHear s p.2] []
theorem hearL_len {L r k : Nat} {w : W} (h : WOk L r k w) (s : Bool) : (hearL w s).length ≤ 2 * k := by
  have z := h.n0
  have z1 := h.n1
  have z6 := h.n6
  have z7 := h.n7
  cases s <;> simp [hearL] <;> omega
theorem hearing_eq (d : Nat) {L r k : Nat} {w : W} (h : WOk L r k w) (hk : k ≤ 100) {ru : Str} (hr : SOk ru) (b0 b1 : Int) (s : Bool) (μ : Sto) : (cfN P (d + 3)).call 85 [pw L r w, .int (sd s), .tup [.int b0, .int b1], .str ru] μ = .ok (.own (.lv (hearP ru b0 b1 w s))) μ := by
  rw [call_at at_hearing_stream_deeds (d + 2) rfl]
  have hl := hearL_len h s
  have hd := letters_eq (d + 1) h hk s μ
  have e0 : evE (cfN P (d + 2)) (.enu (.call 81 [.var 0, .var 1]) none) [some (pw L r w), some (.int (sd s)), some (.tup [.int b0, .int b1]), some (.str ru), some (.own (.lv [])), none, none] μ = .ok (.enu (.lv ((hearL w s).map eLp)) 0) μ := by
    simp [hd]
  have hw : Wk μ (.enu (.lv ((hearL w s).map eLp)) 0) ((hearL w s).zipIdx.map fun p : Lt × Nat => .tup [nat p.2, eLp p.1]) := by
    have z := wk_enuL μ ((hearL w s).map eLp)
    have e : enumd ((hearL w s).map eLp) 0 = (hearL w s).zipIdx.map fun p : Lt × Nat => .tup [nat p.2, eLp p.1] := by
      unfold enumd
      rw [List.zipIdx_map, List.map_map]
      simp [Function.comp_def, nat]
    rwa [e] at z
  have st := forr_at (t := .tp [.nm 5, .nm 6]) (b := [.iff (.or (.cmp .nisn (.call 75 [.var 3, .idx (.var 0) (.var 1), .idx (.var 6) (.con (.int 1)), .idx (.var 6) (.con (.int 2))]) (.con .non)) (.call 73 [.idx (.var 0) (.var 1), .var 2])) [.oap 4 (.tup [.con (.str "hear"), .var 1, .var 5])] []]) e0 hw
  obtain ⟨env', h1, x, y, rfl⟩ := forL_app (asn := assT (.tp [.nm 5, .nm 6])) (b := evSs (cfN P (d + 2)) [.iff (.or (.cmp .nisn (.call 75 [.var 3, .idx (.var 0) (.var 1), .idx (.var 6) (.con (.int 1)), .idx (.var 6) (.con (.int 2))]) (.con .non)) (.call 73 [.idx (.var 0) (.var 1), .var 2])) [.oap 4 (.tup [.con (.str "hear"), .var 1, .var 5])] []]) (μ := μ)
    (it := fun p : Lt × Nat => .tup [nat p.2, eLp p.1]) (g := fun p => cond (hearB ru b0 b1 w s p.1) [dHear s p.2] [])
    (Inv := fun acc env => ∃ x y, env = [some (pw L r w), some (PV.int (sd s)), some (.tup [.int b0, .int b1]), some (.str ru), some (.own (.lv acc)), x, y]) (l := (hearL w s).zipIdx)
    (fun p hp acc env hI hz => by
      obtain ⟨x, y, rfl⟩ := hI
      obtain ⟨⟨kd, v⟩, n⟩ := p
      have hm : (kd, v) ∈ hearL w s := List.mem_of_getElem? (zip_mem hp)
      obtain ⟨a, c, t, rfl, ht⟩ := hearL_r0 h s v (List.mem_map.mpr ⟨_, hm, rfl⟩)
      refine ⟨[some (pw L r w), some (.int (sd s)), some (.tup [.int b0, .int b1]), some (.str ru), some (.own (.lv acc)), some (nat n), some (eLp (kd, .tup (.int a :: .int c :: t)))], _, by simp [eLp], ?_, some (nat n), some (eLp (kd, .tup (.int a :: .int c :: t))), rfl⟩
      have g1 : (cfN P (d + 2)).call 75 [.str ru, lkv (W.lk w s) s, .int a, .int c] μ = _ := heard_eq (d + 1) (μ := μ) hr (sd s) (W.lk w s).m (W.lk w s).p (W.lk w s).b a c
      have g2 : (cfN P (d + 2)).call 73 [lkv (W.lk w s) s, .tup [.int b0, .int b1]] μ = _ := left_eq (d + 1) (μ := μ) s (W.lk w s).m (W.lk w s).p b0 b1 (W.lk w s).b
      have i1 : idxM μ (eLp (kd, .tup (.int a :: .int c :: t))) (.int 1) = some (.int a) := atI_1 _ _ _
      have i2 : idxM μ (eLp (kd, .tup (.int a :: .int c :: t))) (.int 2) = some (.int c) := atI_2 _ _ _ _
      have pl : OL.plain (eLp (kd, .tup (.int a :: .int c :: t))) = some (eLp (kd, .tup (.int a :: .int c :: t))) := rfl
      simp only [hearB, ltA, ltC]
      have hq : acc.length < 16777216 := by simp only [SZ] at hz; omega
      generalize leftM s (W.lk w s).m b0 b1 = lf at g2 ⊢
      generalize heardM ru (W.lk w s).m (W.lk w s).p (W.lk w s).b a c = hm at g1 ⊢
      cases hm <;> cases lf <;> simp [g1, g2, i1, i2, pl, isNon_oLk, dis_oLk, st_oap, getO, unown, setO, setSlot, appV, SZ, hq, nxO, dHear])
    (acc := []) ⟨none, none, rfl⟩ (by
      have z := flat_cond (c := fun p : Lt × Nat => hearB ru b0 b1 w s p.1) (f := fun p => dHear s p.2) (hearL w s).zipIdx
      rw [List.length_zipIdx] at z
      simp only [List.length_nil, SZ]
      omega)
  have sA : evS (cfN P (d + 2)) (.oasg 4 (.lst [])) [some (pw L r w), some (.int (sd s)), some (.tup [.int b0, .int b1]), some (.str ru), none, none, none] μ = .ok .nx [some (pw L r w), some (.int (sd s)), some (.tup [.int b0, .int b1]), some (.str ru), some (.own (.lv [])), none, none] μ := by
    simp [setO, setSlot, nxO]
  show outR (evSs (cfN P (d + 2)) (_ :: _ :: _ :: []) [some (pw L r w), some (.int (sd s)), some (.tup [.int b0, .int b1]), some (.str ru), none, none, none] μ) = _
  rw [st_cons, sA, seq_nx, st_cons, st, h1, seq_nx, st_cons, st_retO]
  rfl
/-- all deeds of a world -/
def takesB (L : Nat) (r : Str) (w : W) : Bool := (w.l0.b || (rIs r "bare" && decide (0 < w.l0.p))) && (takeT L w.o).isSome
def crashB (r : Str) (b0 b1 : Int) (w : W) (s : Bool) : Bool := rIs r "count" || leftM s (W.lk w s).m b0 b1
def dWord (x : Str) : PV := .tup [.str x]
def dSide (x : Str) (s : Bool) : PV := .tup [.str x, .int (sd s)]
def deedsP (L : Nat) (r : Str) (b0 b1 : Int) (w : W) : List PV :=
  [dSide "greet" false, dSide "greet" true] ++ cond (takesB L r w) [dWord "take"] [] ++ cond (underT w.o).isEmpty [] [dWord "lose"] ++ cond w.l1.b [dWord "room"] [] ++
    hearP r b0 b1 w false ++ hearP r b0 b1 w true ++ cond (w.i.held.contains w.i.rd) [dWord "read"] [] ++ cond (crashB r b0 b1 w false) [dSide "crash" false] [] ++ cond (crashB r b0 b1 w true) [dSide "crash" true] []
theorem idx_takeV (L : Nat) (s : OS) (μ : Sto) : (idxM μ (takeV L s) (.int 1)).map (isNon) = some (takeT L s).isNone := by
  unfold takeV
  cases takeT L s with
  | none => rfl
  | some x =>
    show (some (pieceP L x.1)).map isNon = _
    unfold pieceP
    split <;> rfl
theorem app_if {cf : CF} {v0 v1 v2 x : Option PV} {μ : Sto} {c e : E} {b : Bool} {v : PV} {acc : List PV} (hc : (evE cf c [v0, v1, v2, some (.own (.lv acc)), x] μ).bind trR = .ok b μ) (he : b = true → evE cf e [v0, v1, v2, some (.own (.lv acc)), x] μ = .ok v μ) (hl : acc.length < 16777216) :
    evS cf (.iff c [.oap 3 e] []) [v0, v1, v2, some (.own (.lv acc)), x] μ = .ok .nx [v0, v1, v2, some (.own (.lv (acc ++ cond b [v] []))), x] μ := by
  rw [st_iff, hc]
  cases b with
  | false => simp
  | true => simp [he rfl, st_oap, getO, unown, setO, setSlot, appV, SZ, hl, nxO]
theorem idx_takeV' (L : Nat) (s : OS) (μ : Sto) : ∃ v, idxM μ (takeV L s) (.int 1) = some v ∧ isNon v = (takeT L s).isNone := by
  have z := idx_takeV L s μ
  cases e : idxM μ (takeV L s) (.int 1) with
  | none => rw [e] at z; cases z
  | some v => rw [e] at z; exact ⟨v, rfl, Option.some.inj z⟩
theorem ne_nil {n : Nat} {l : List PV} (h : pus n l = true) (hn : n ≤ 60) (μ : Sto) : cmpOp .ne (.tup l) (.tup []) μ = some (!l.isEmpty) := by
  have a : pu (n + 1) (.tup l) = true := by rw [pu]; exact h
  have b : pu (n + 1) (.tup []) = true := by rw [pu, pus]
  show (eqM μ (.tup l) (.tup [])).map (!·) = _
  rw [eqM_pu a b (by omega) (by omega)]
  cases l with
  | nil => rfl
  | cons x r => rfl
theorem rg2_pus (l : List (Nat × Nat)) : pus 2 (l.map rg2) = true := pus_all.mpr fun v hv => by
  obtain ⟨p, _, rfl⟩ := List.mem_map.mp hv
  rfl
theorem under_nil {L : Nat} {s : OS} (h : s ∈ outs L) : (rngs (underT s)).isEmpty = (underT s).isEmpty := by
  rcases under_in h with ⟨a, b⟩ | ⟨a, b, c, e, _⟩
  · rw [a]; rfl
  · rw [e]
    cases hu : underT s with
    | nil => exact absurd hu c
    | cons x r => rfl
theorem rdb_pos (s : IS) : decide ((0 : Int) < (rdbT s : Nat)) = s.held.contains s.rd := by
  unfold rdbT
  cases s.held.contains s.rd with
  | false => rfl
  | true => cases s.held.contains (s.rd + 1) <;> rfl
theorem deeds_eq (d : Nat) {L r k : Nat} {w : W} (h : WOk L r k w) (hk : k ≤ 100) {ru : Str} (hr : SOk ru) (b0 b1 : Int) (μ : Sto) : (cfN P (d + 15)).call 86 [pw L r w, .tup [.int b0, .int b1], .str ru] μ = .ok (.own (.lv (deedsP L ru b0 b1 w))) μ := by
  rw [call_at at_stream_deeds (d + 14) rfl]
  have hl0 := hearL_len h false
  have hl1 := hearL_len h true
  have s1 : evS (cfN P (d + 14)) (.oasg 3 (.lst [(.tup [(.con (.str "greet")), (.con (.int (0)))]), (.tup [(.con (.str "greet")), (.con (.int (1)))])])) [some (pw L r w), some (.tup [.int b0, .int b1]), some (.str ru), none, none] μ = .ok .nx [some (pw L r w), some (.tup [.int b0, .int b1]), some (.str ru), some (.own (.lv [dSide "greet" false, dSide "greet" true])), none] μ := by
    simp [setO, setSlot, nxO, SZ, dSide, sd]
  have gm : (cfN P (d + 14)).call 84 [lkv w.l0 false, .str ru] μ = _ := may_eq (d + 13) hr 0 w.l0.m w.l0.p w.l0.b
  have gt := take_eq (d + 1) h.o μ
  have gu := under_eq (d + 1) h.o μ
  have gr := readable_eq (d + 1) h.i μ
  obtain ⟨tv, tz, tn⟩ := idx_takeV' L w.o μ
  show outR (evSs (cfN P (d + 14)) (_ :: _ :: _ :: _ :: _ :: _ :: _ :: _ :: []) [some (pw L r w), some (.tup [.int b0, .int b1]), some (.str ru), none, none] μ) = _
  rw [st_cons, s1, seq_nx, st_cons, app_if (b := takesB L ru w) (v := dWord "take") (by
    unfold takesB
    generalize (w.l0.b || (rIs ru "bare" && decide (0 < w.l0.p))) = mb at gm ⊢
    cases mb <;> simp [gm, gt, dis_takeV, tz, tn]) (fun _ => by simp [SZ, dWord]) (by simp), seq_nx]
  rw [st_cons, app_if (b := !(underT w.o).isEmpty) (v := dWord "lose") (by
    simp [gu, ne_nil (rg2_pus _) (by decide), under_nil h.o]) (fun _ => by simp [SZ, dWord]) (by cases takesB L ru w <;> simp), seq_nx]
  rw [st_cons, app_if (b := w.l1.b) (v := dWord "room") (by
    simp) (fun _ => by simp [SZ, dWord]) (by cases takesB L ru w <;> cases (underT w.o).isEmpty <;> simp), seq_nx]
  have sx : ∀ (acc : List PV) (s : Bool), acc.length ≤ 1000 → evS (cfN P (d + 14)) (.oex 3 (.call 85 [.var 0, .var 4, .var 1, .var 2])) [some (pw L r w), some (.tup [.int b0, .int b1]), some (.str ru), some (.own (.lv acc)), some (.int (sd s))] μ = .ok .nx [some (pw L r w), some (.tup [.int b0, .int b1]), some (.str ru), some (.own (.lv (acc ++ hearP ru b0 b1 w s))), some (.int (sd s))] μ := by
    intro acc s ha
    have g := hearing_eq (d + 11) h hk hr b0 b1 s μ
    have z : (hearP ru b0 b1 w s).length ≤ 2 * k := by
      have z := flat_cond (c := fun p : Lt × Nat => hearB ru b0 b1 w s p.1) (f := fun p => dHear s p.2) (hearL w s).zipIdx
      rw [List.length_zipIdx] at z
      have := hearL_len h s
      unfold hearP
      omega
    have hz : acc.length + (hearP ru b0 b1 w s).length ≤ 16777216 := by omega
    rw [st_oex (h := rfl)]
    simp [g, extV, hz, SZ, setO, setSlot, nxO]
  have f1 : ∀ (acc : List PV) (x : Option PV), acc.length ≤ 500 → evS (cfN P (d + 14)) (.forr (.nm 4) (.tup [.con (.int 0), .con (.int 1)]) [.oex 3 (.call 85 [.var 0, .var 4, .var 1, .var 2])]) [some (pw L r w), some (.tup [.int b0, .int b1]), some (.str ru), some (.own (.lv acc)), x] μ = .ok .nx [some (pw L r w), some (.tup [.int b0, .int b1]), some (.str ru), some (.own (.lv (acc ++ hearP ru b0 b1 w false ++ hearP ru b0 b1 w true))), some (.int 1)] μ := by
    intro acc x ha
    have z : (hearP ru b0 b1 w false).length ≤ 2 * k := by
      have z := flat_cond (c := fun p : Lt × Nat => hearB ru b0 b1 w false p.1) (f := fun p => dHear false p.2) (hearL w false).zipIdx
      rw [List.length_zipIdx] at z
      unfold hearP
      omega
    have x0 := sx acc false (by omega)
    have x1 := sx (acc ++ hearP ru b0 b1 w false) true (by rw [List.length_append]; omega)
    rw [show sd false = 0 from rfl] at x0
    rw [show sd true = 1 from rfl] at x1
    rw [forr_at (l := [.int 0, .int 1]) (by simp [SZ]) (wk_tup μ _)]
    unfold forL
    simp only [as_nm, List.length_cons, List.length_nil]
    rw [if_pos (by decide)]
    simp only [List.set, st_cons, x0, seq_nx, st_nil]
    unfold forL
    simp only [as_nm, List.length_cons, List.length_nil]
    rw [if_pos (by decide)]
    simp only [List.set, st_cons, x1, seq_nx, st_nil]
    unfold forL
    rfl
  have cx : ∀ (acc : List PV) (s : Bool), acc.length ≤ 1000 → evS (cfN P (d + 14)) (.iff (.or (.cmp .eq (.var 2) (.con (.str "count"))) (.call 73 [.idx (.var 0) (.var 4), .var 1])) [.oap 3 (.tup [.con (.str "crash"), .var 4])] []) [some (pw L r w), some (.tup [.int b0, .int b1]), some (.str ru), some (.own (.lv acc)), some (.int (sd s))] μ = .ok .nx [some (pw L r w), some (.tup [.int b0, .int b1]), some (.str ru), some (.own (.lv (acc ++ cond (crashB ru b0 b1 w s) [dSide "crash" s] []))), some (.int (sd s))] μ := by
    intro acc s ha
    have g : (cfN P (d + 14)).call 73 [lkv (W.lk w s) s, .tup [.int b0, .int b1]] μ = _ := left_eq (d + 13) (μ := μ) s (W.lk w s).m (W.lk w s).p b0 b1 (W.lk w s).b
    refine app_if (b := crashB ru b0 b1 w s) (v := dSide "crash" s) ?_ (fun _ => by simp [SZ, dSide]) (by omega)
    unfold crashB
    generalize leftM s (W.lk w s).m b0 b1 = lf at g ⊢
    cases hc : rIs ru "count" <;> simp [hr, so_count, hc, g]
  have f2 : ∀ (acc : List PV) (x : Option PV), acc.length ≤ 900 → evS (cfN P (d + 14)) (.forr (.nm 4) (.tup [.con (.int 0), .con (.int 1)]) [.iff (.or (.cmp .eq (.var 2) (.con (.str "count"))) (.call 73 [.idx (.var 0) (.var 4), .var 1])) [.oap 3 (.tup [.con (.str "crash"), .var 4])] []]) [some (pw L r w), some (.tup [.int b0, .int b1]), some (.str ru), some (.own (.lv acc)), x] μ = .ok .nx [some (pw L r w), some (.tup [.int b0, .int b1]), some (.str ru), some (.own (.lv (acc ++ cond (crashB ru b0 b1 w false) [dSide "crash" false] [] ++ cond (crashB ru b0 b1 w true) [dSide "crash" true] []))), some (.int 1)] μ := by
    intro acc x ha
    have x0 := cx acc false (by omega)
    have x1 := cx (acc ++ cond (crashB ru b0 b1 w false) [dSide "crash" false] []) true (by rw [List.length_append]; cases crashB ru b0 b1 w false <;> simp <;> omega)
    rw [show sd false = 0 from rfl] at x0
    rw [show sd true = 1 from rfl] at x1
    rw [forr_at (l := [.int 0, .int 1]) (by simp [SZ]) (wk_tup μ _)]
    unfold forL
    simp only [as_nm, List.length_cons, List.length_nil]
    rw [if_pos (by decide)]
    simp only [List.set, st_cons, x0, seq_nx, st_nil]
    unfold forL
    simp only [as_nm, List.length_cons, List.length_nil]
    rw [if_pos (by decide)]
    simp only [List.set, st_cons, x1, seq_nx, st_nil]
    unfold forL
    rfl
  have hs : ∀ s, (hearP ru b0 b1 w s).length ≤ 2 * k := by
    intro s
    have z := flat_cond (c := fun p : Lt × Nat => hearB ru b0 b1 w s p.1) (f := fun p => dHear s p.2) (hearL w s).zipIdx
    rw [List.length_zipIdx] at z
    have := hearL_len h s
    unfold hearP
    omega
  have h0 := hs false
  have h1 := hs true
  have lc : ∀ (b : Bool) (v : PV), (cond b [v] []).length ≤ 1 := by intro b v; cases b <;> simp
  have n1 := lc (takesB L ru w) (dWord "take")
  have n2 := lc (!(underT w.o).isEmpty) (dWord "lose")
  have n3 := lc w.l1.b (dWord "room")
  have n4 := lc (w.i.held.contains w.i.rd) (dWord "read")
  rw [st_cons, f1 _ _ (by simp only [List.length_append, List.length_cons, List.length_nil]; omega), seq_nx]
  rw [st_cons, app_if (b := w.i.held.contains w.i.rd) (v := dWord "read") (by
    rw [← rdb_pos]
    simp [gr, nat]) (fun _ => by simp [SZ, dWord]) (by simp only [List.length_append, List.length_cons, List.length_nil]; omega), seq_nx]
  rw [st_cons, f2 _ _ (by simp only [List.length_append, List.length_cons, List.length_nil]; omega), seq_nx, st_cons, st_retO]
  have en : cond (!(underT w.o).isEmpty) [dWord "lose"] [] = cond (underT w.o).isEmpty [] [dWord "lose"] := by cases (underT w.o).isEmpty <;> rfl
  rw [en]
  rfl
end M76
end
section
set_option Elab.async false
set_option linter.all false
set_option maxRecDepth 100000
set_option maxHeartbeats 4000000
/-! the small worlds, part g: the program's world behind a deed. -/
namespace M76
open PySem OL
theorem at_taken_world : P.funs[87]? = some f87 := fun_at defs_eq _ rfl
theorem at_roomed_world : P.funs[88]? = some f88 := fun_at defs_eq _ rfl
theorem at_with_letter : P.funs[89]? = some f89 := fun_at defs_eq _ rfl
theorem at_heard_world : P.funs[90]? = some f90 := fun_at defs_eq _ rfl
theorem at_lost_world : P.funs[91]? = some f91 := fun_at defs_eq _ rfl
theorem at_stream_behind : P.funs[92]? = some f92 := fun_at defs_eq _ rfl
theorem at_with_new_life : P.funs[83]? = some f83 := fun_at defs_eq _ rfl
theorem at_inbox_new : P.funs[6]? = some f6 := fun_at defs_eq _ rfl
theorem chg_eq (d : Nat) (L r : Nat) (w : W) (ks : List Ky) (vs : List PV) (μ : Sto) : (cfN P (d + 1)).call 82 [pw L r w, .dv ks vs] μ = .ok (.tup (chM (pwL L r w) ks vs)) μ := changed_eq d (by
  intro v hv
  simp only [pwL, List.mem_cons, List.not_mem_nil, or_false] at hv
  rcases hv with rfl | rfl | rfl | rfl | rfl | rfl | rfl | rfl | rfl <;> rfl) (by simp [pwL])
def cs (L r : Nat) (ru : Str) : PV := .tup [nat L, nat r, .str ru]
section
variable (L r : Nat) (ru : Str) (μ : Sto)
@[simp] theorem pl_cs : OL.plain (cs L r ru) = some (cs L r ru) := rfl
@[simp] theorem cs_0 : idxM μ (cs L r ru) (.int 0) = some (nat L) := rfl
@[simp] theorem cs_1 : idxM μ (cs L r ru) (.int 1) = some (nat r) := rfl
@[simp] theorem cs_2 : idxM μ (cs L r ru) (.int 2) = some (.str ru) := rfl
end
@[simp] theorem dis1 (x y : PV) : disD [.int 2, x, .int 6, y] ([], []) = some ([.inl 2, .inl 6], [x, y]) := rfl
@[simp] theorem dis2 (x y : PV) : disD [.int 3, x, .int 7, y] ([], []) = some ([.inl 3, .inl 7], [x, y]) := rfl
@[simp] theorem dis3 (x : PV) : disD [.int 2, x] ([], []) = some ([.inl 2], [x]) := rfl
@[simp] theorem dis4 (x : PV) : disD [.int 3, x] ([], []) = some ([.inl 3], [x]) := rfl
@[simp] theorem dis5 (x y : PV) : disD [.int 0, x, .int 8, y] ([], []) = some ([.inl 0, .inl 8], [x, y]) := rfl
@[simp] theorem dis6 (x y : PV) : disD [.int 1, x, .int 8, y] ([], []) = some ([.inl 1, .inl 8], [x, y]) := rfl
@[simp] theorem dis7 (x y : PV) : disD [.int 0, x, .int 2, y] ([], []) = some ([.inl 0, .inl 2], [x, y]) := rfl
@[simp] theorem dis8 (x y : PV) : disD [.int 1, x, .int 3, y] ([], []) = some ([.inl 1, .inl 3], [x, y]) := rfl
@[simp] theorem dis9 (x : PV) : disD [.int 4, x] ([], []) = some ([.inl 4], [x]) := rfl
@[simp] theorem dis10 (x : PV) : disD [.int 5, x] ([], []) = some ([.inl 5], [x]) := rfl
/-! ### worlds behind a deed -/
/-- a piece, the rule on ends perhaps left out -/
def pcT (L : Nat) (ru : Str) (p : Nat) : Pc := ⟨p, decide (p < L), if p < L then rIs ru "end" && decide (p + 2 = L) else true⟩
theorem pcT_mem {L p : Nat} (ru : Str) (hL : L ≤ 2) (hp : p ≤ L) : pcT L ru p ∈ pcs L := by
  have : (L = 0 ∧ p = 0) ∨ (L = 1 ∧ p = 0) ∨ (L = 1 ∧ p = 1) ∨ (L = 2 ∧ p = 0) ∨ (L = 2 ∧ p = 1) ∨ (L = 2 ∧ p = 2) := by omega
  rcases this with ⟨rfl, rfl⟩ | ⟨rfl, rfl⟩ | ⟨rfl, rfl⟩ | ⟨rfl, rfl⟩ | ⟨rfl, rfl⟩ | ⟨rfl, rfl⟩ <;> unfold pcT <;> cases rIs ru "end" <;> decide
def takenW (L : Nat) (ru : Str) (w : W) : W := match takeT L w.o with
  | none => w
  | some (p, s') => { w with o := s', s6 := putRow w.s6 (e6 w.l0.m w.l0.p (pcT L ru p)) }
def greetW (s : Bool) (w : W) : W := if s = true then { w with g1 := putRow w.g1 (e2 w.l1.m w.l1.p) } else { w with g0 := putRow w.g0 (e2 w.l0.m w.l0.p) }
def hv1 (ru : Str) : Nat := if rIs ru "have" = true then 1 else 0
def roomW (r : Nat) (ru : Str) (w : W) : W := { w with i := grantT r w.i, s7 := putRow w.s7 (e7 w.l1.m w.l1.p (haveT w.i + hv1 ru) (w.i.rd + r)) }
def loseW (w : W) : W := { w with o := loseT w.o }
def readW (w : W) : W := { w with i := readT w.i }
def newW (L : Nat) (ru : Str) (s : Bool) (f : Int) (w : W) : W := if s = true then { w with l1 := ⟨nextM ru w.l1.m f, f, false⟩, i := ⟨0, [], none, 0⟩ } else { w with l0 := ⟨nextM ru w.l0.m f, f, false⟩, o := ⟨0, 0, [], lim0 L ru⟩ }
def pcOf : PV → Pc
  | .tup [_, _, .int low, .tup l, .bl f] => ⟨low.toNat, !l.isEmpty, f⟩
  | _ => ⟨0, false, false⟩
def htOf : PV → Nat × Nat
  | .tup [_, _, .int h, .int t] => (h.toNat, t.toNat)
  | _ => (0, 0)
theorem pcOf_e6 (a b : Int) (c : Pc) : pcOf (e6 a b c) = c := by
  obtain ⟨l, o, f⟩ := c
  cases o <;> rfl
theorem htOf_e7 (a b : Int) (h t : Nat) : htOf (e7 a b h t) = (h, t) := rfl
def letterW (s : Bool) (v : PV) (w : W) : W := if s = true then { w with i := fedT w.i (pcOf v) } else if w.o.n < (htOf v).1 then w else { w with o := roomT (hadT w.o (htOf v).1) (htOf v).2 }
def linkW (s : Bool) (m p : Int) (b : Bool) (w : W) : W := if s = true then { w with l1 := ⟨m, p, b⟩, s8 := noteM w.s8 m p b } else { w with l0 := ⟨m, p, b⟩, s8 := noteM w.s8 m p b }
def takB (ru : Str) (m p : Int) (b : Bool) (v : PV) : Bool := b && decide (ltA v = p) && (rIs ru "to" || decide (ltC v = m))
def hearW (L : Nat) (ru : Str) (s : Bool) (q : Lt) (w : W) : W := match heardM ru (W.lk w s).m (W.lk w s).p (W.lk w s).b (ltA q.2) (ltC q.2) with
  | none => newW L ru s (ltA q.2) w
  | some (m, p, b) => cond (q.1 || !takB ru m p b q.2) (linkW s m p b w) (letterW s q.2 (linkW s m p b w))
theorem taken_eq (d : Nat) {L r k : Nat} {w : W} (h : WOk L r k w) (hk : k ≤ 100) {ru : Str} (hr : SOk ru) (ht : (takeT L w.o).isSome = true) (μ : Sto) : (cfN P (d + 15)).call 87 [pw L r w, cs L r ru] μ = .ok (pw L r (takenW L ru w)) μ := by
  rw [call_at at_taken_world (d + 14) rfl]
  have gt := take_eq (d + 1) h.o μ
  have n6 := h.n6
  cases e : takeT L w.o with
  | none => rw [e] at ht; cases ht
  | some q =>
    obtain ⟨p, s'⟩ := q
    have tv : takeV L w.o = .tup [eOb L s', pieceP L p] := by unfold takeV; rw [e]
    rw [tv] at gt
    have gp := put_in_eq (d + 13) (μ := μ) h.s6.row (xs := _) (sh6 w.l0.m w.l0.p (pcT L ru p)) (by omega)
    have tw : takenW L ru w = { w with o := s', s6 := putRow w.s6 (e6 w.l0.m w.l0.p (pcT L ru p)) } := by unfold takenW; rw [e]
    rw [tw]
    have ch := fun ks vs => chg_eq (d + 13) L r w ks vs μ
    by_cases hp : p < L
    · have e1 : pieceP L p = .tup [nat p, nats [p], .bl false] := if_pos hp
      rw [e1] at gt
      have e3 : pcT L ru p = ⟨p, true, rIs ru "end" && decide (p + 2 = L)⟩ := by unfold pcT; rw [if_pos hp, decide_eq_true hp]
      rw [e3] at gp ⊢
      have hc : decide ((p : Int) + 2 = (L : Int)) = decide (p + 2 = L) := by
        by_cases z : p + 2 = L
        · rw [decide_eq_true z, decide_eq_true (by omega)]
        · rw [decide_eq_false z, decide_eq_false (by omega)]
      generalize decide (p + 2 = L) = x at hc gp ⊢
      simp only [nat, nats, List.map, if_true] at gp gt
      cases he : rIs ru "end" <;> cases x <;> simp [he] at gp <;> simp [f87, entry, List.replicate, nxO, gt, hr, so_end, he, nat, nats, hc, add_tup, e2, SZ, gp, ch] <;> rfl
    · have e1 : pieceP L p = .tup [nat p, .tup [], .bl true] := if_neg hp
      rw [e1] at gt
      have e3 : pcT L ru p = ⟨p, false, true⟩ := by unfold pcT; rw [if_neg hp, decide_eq_false hp]
      rw [e3] at gp ⊢
      simp only [nat, nats, List.map, Bool.false_eq_true, if_false] at gp gt
      cases he : rIs ru "end" <;> simp [f87, entry, List.replicate, nxO, gt, hr, so_end, he, nat, nats, add_tup, e2, SZ, gp, ch] <;> rfl
end M76
end
section
set_option Elab.async false
set_option linter.all false
set_option maxRecDepth 100000
set_option maxHeartbeats 4000000
/-! the small worlds, part h: the program's world behind a deed, further. -/
namespace M76
open PySem OL
@[simp] theorem dis_lk (s m p : Int) (b : Bool) : disown (lk s m p b) = lk s m p b := rfl
@[simp] theorem pl_lk (s m p : Int) (b : Bool) : OL.plain (lk s m p b) = some (lk s m p b) := rfl
theorem roomed_eq (d : Nat) {L r k : Nat} {w : W} (h : WOk L r k w) (hk : k ≤ 100) {ru : Str} (hr : SOk ru) (μ : Sto) : (cfN P (d + 15)).call 88 [pw L r w, .str ru] μ = .ok (pw L r (roomW r ru w)) μ := by
  rw [call_at at_roomed_world (d + 14) rfl]
  have n7 := h.n7
  have g := grant_eq (d + 1) h.i μ
  have gh := have_eq (d + 1) (grant_in h.i).1 μ
  rw [(grant_in h.i).2.2.2] at gh
  have gp := put_in_eq (d + 13) (μ := μ) h.s7.row (xs := _) (sh7 w.l1.m w.l1.p (haveT w.i + hv1 ru) (w.i.rd + r)) (by omega)
  have ch := fun ks vs => chg_eq (d + 13) L r w ks vs μ
  simp only [nat] at g gh gp
  cases he : rIs ru "have" <;> simp [hv1, he] at gp <;> simp [f88, entry, List.replicate, nxO, g, gh, hr, so_have, he, nat, add_tup, e2, SZ, gp, ch, bltM] <;> simp [roomW, hv1, he, pw, pwL, chM, lookK, e7, nat]
theorem new_eq (d : Nat) {L r : Nat} (w : W) (hL : L ≤ 2) (hr1 : 1 ≤ r) (hr2 : r ≤ 2) {ru : Str} (hr : SOk ru) (s : Bool) (f : Int) (μ : Sto) : (cfN P (d + 16)).call 83 [pw L r w, .int (sd s), .int f, cs L r ru] μ = .ok (pw L r (newW L ru s f w)) μ := by
  rw [call_at at_with_new_life (d + 15) rfl]
  have gf := full_eq d hL hr μ
  have gi : (cfN P (d + 15)).call 6 [nat r] μ = _ := call_deeper (mapAt (F_ib μ) (show r ∈ [1, 2] by simp; omega)) (fun z => by cases z) (by omega)
  have gn : (cfN P (d + 15)).call 77 [lkv (W.lk w s) s, .int f, .str ru] μ = _ := next_eq (d + 14) (μ := μ) hr (sd s) (W.lk w s).m (W.lk w s).p f (W.lk w s).b
  have ch := fun ks vs => chg_eq (d + 14) L r w ks vs μ
  simp only [nat] at gf gi
  cases s <;> simp [f83, entry, List.replicate, nxO, gf, gi, cs, nat, sd, SZ] <;> simp [sd] at gn <;> simp [gn, ch] <;> rfl
theorem forL_step {asn : PV → OL.Env → Option OL.Env} {b : OL.Env → Sto → Out} {x : PV} {r : List PV} {env env1 env2 : OL.Env} {μ μ' : Sto} (h1 : asn x env = some env1) (h2 : b env1 μ = .ok .nx env2 μ') : forL asn b (x :: r) env μ = forL asn b r env2 μ' := by
  rw [forL, h1]
  simp only [h2]
theorem forL_nil (asn : PV → OL.Env → Option OL.Env) (b : OL.Env → Sto → Out) (env : OL.Env) (μ : Sto) : forL asn b [] env μ = .ok .nx env μ := rfl
theorem lostw_eq (d : Nat) {L r k : Nat} {w : W} (h : WOk L r k w) (hu : underT w.o ≠ []) (μ : Sto) : (cfN P (d + 15)).call 91 [pw L r w] μ = .ok (pw L r (loseW w)) μ := by
  rw [call_at at_lost_world (d + 14) rfl]
  have gu := under_eq (d + 1) h.o μ
  have ch := fun ks vs => chg_eq (d + 13) L r w ks vs μ
  rcases under_in h.o with ⟨a, b⟩ | ⟨a, b, c, e, ha, hb⟩
  · exact absurd a hu
  · have gl := lost_eq (d + 1) h.o e ha hb μ
    rw [e] at gu
    have st := forr_at (cf := cfN P (d + 14)) (env := [some (pw L r w), some (eOb L w.o), none, none]) (μ := μ) (μ' := μ) (t := .tp [.nm 2, .nm 3]) (it := .call 70 [.var 1]) (b := [.asg (.nm 1) (.call 66 [.var 1, .var 2, .var 3])]) (v := .tup ([(a, b)].map rg2)) (l := [(a, b)].map rg2) (by simp [gu]) (wk_tup μ _)
    rw [List.map_cons, forL_step (env1 := [some (pw L r w), some (eOb L w.o), some (nat a), some (nat b)]) (env2 := [some (pw L r w), some (eOb L (loseT w.o)), some (nat a), some (nat b)]) (μ' := μ) (by simp [rg2]) (by simp [gl, nxO]), List.map_nil, forL_nil] at st
    simp [f91, entry, List.replicate, nxO, st, ch, loseW, SZ]
    rfl
end M76
end
section
set_option Elab.async false
set_option linter.all false
set_option maxRecDepth 100000
set_option maxHeartbeats 4000000
/-! the small worlds, part i: what is heard, all deeds. -/
namespace M76
open PySem OL
theorem st_tri1 (cf : CF) (env : OL.Env) (μ : Sto) (b : List S) (cs : List Nat) (hb : List S) : evS cf (.tri b [.hdl cs none hb]) env μ = (match evSs cf b env μ with
      | .exc c fs env μ => if cs.any (cf.sub c) = true then (evSs cf hb env μ).calm else .exc c fs env μ
      | r => r) := by
  rw [evS]
  cases evSs cf b env μ with
  | ok f env μ => rfl
  | err => rfl
  | exc c fs env μ =>
    show evHs cf [.hdl cs none hb] c fs env μ = _
    rw [evHs, evH, evHs]
theorem sub_eq (d : Nat) : (cfN P d).sub = P.sub := by cases d <;> rfl
theorem sub33 : P.sub 3 3 = true := by kernel_rfl
@[simp] theorem pl_eLp (q : Lt) : OL.plain (eLp q) = some (eLp q) := rfl
@[simp] theorem dis_eLp (q : Lt) : disown (eLp q) = eLp q := rfl
@[simp] theorem pl_ePc (c : Pc) : OL.plain (ePc c) = some (ePc c) := rfl
theorem withL_t (d : Nat) {L r k : Nat} {w : W} (h : WOk L r k w) (a b : Int) {c : Pc} (hc : c ∈ pcs L) (μ : Sto) : (cfN P (d + 15)).call 89 [pw L r w, .int 1, eLp (false, e6 a b c)] μ = .ok (pw L r (letterW true (e6 a b c) w)) μ := by
  rw [call_at at_with_letter (d + 14) rfl]
  have g := putO_eq (d + 1) h.i hc μ
  have ch := fun ks vs => chg_eq (d + 13) L r w ks vs μ
  have sl : cutM (eLp (false, e6 a b c)) (some 3) none = some (ePc c) := rfl
  have sb := sub33
  unfold putV at g
  cases e : badW w.i c with
  | some x =>
    have z : letterW true (e6 a b c) w = w := by unfold letterW; rw [if_pos rfl, pcOf_e6]; unfold fedT; rw [e]
    rw [z]
    simp only [e] at g
    simp [f89, entry, List.replicate, st_tri1, sl, g, sub_eq, sb, Out.calm, Out.seq]
  | none =>
    have z : letterW true (e6 a b c) w = { w with i := fedT w.i c } := by unfold letterW; rw [if_pos rfl, pcOf_e6]
    rw [z]
    simp only [e] at g
    simp [f89, entry, List.replicate, st_tri1, sl, g, ch]
    rfl
theorem withL_f (d : Nat) {L r k : Nat} {w : W} (h : WOk L r k w) (hL : L ≤ 2) (a b : Int) {hv t : Nat} (ht : t ≤ L + 2) (μ : Sto) : (cfN P (d + 15)).call 89 [pw L r w, .int 0, eLp (false, e7 a b hv t)] μ = .ok (pw L r (letterW false (e7 a b hv t) w)) μ := by
  rw [call_at at_with_letter (d + 14) rfl]
  have ch := fun ks vs => chg_eq (d + 13) L r w ks vs μ
  have i3 : idxM μ (eLp (false, e7 a b hv t)) (.int 3) = some (.int hv) := rfl
  have i4 : idxM μ (eLp (false, e7 a b hv t)) (.int 4) = some (.int t) := rfl
  have j3 : idxM μ (eOb L w.o) (.int 3) = some (.int w.o.n) := rfl
  by_cases e : w.o.n < hv
  · have z : letterW false (e7 a b hv t) w = w := by unfold letterW; rw [if_neg (by simp), htOf_e7, if_pos e]
    rw [z]
    have e' : (w.o.n : Int) < (hv : Int) := by omega
    simp [f89, entry, List.replicate, i3, j3, e']
  · have z : letterW false (e7 a b hv t) w = { w with o := roomT (hadT w.o hv) t } := by unfold letterW; rw [if_neg (by simp), htOf_e7, if_neg e]
    rw [z]
    have e' : ¬ (w.o.n : Int) < (hv : Int) := by omega
    have g1 := hadO_eq (d + 1) h.o (show hv ≤ w.o.n by omega) μ
    have g2 := roomedO_eq (d + 1) (had_in h.o (show hv ≤ w.o.n by omega)) (k := t) (by omega) μ
    simp only [nat] at g1 g2
    simp [f89, entry, List.replicate, i3, i4, j3, e', g1, g2, ch]
    rfl
/-! ### rows stay rows -/
theorem _root_.OL.WOk.mono {L r k k' : Nat} {w : W} (h : WOk L r k w) (hk : k ≤ k') : WOk L r k' w := ⟨h.o, h.i, h.g0, h.g1, h.s6, h.s7, h.s8, Nat.le_trans h.n0 hk, Nat.le_trans h.n1 hk, Nat.le_trans h.n6 hk, Nat.le_trans h.n7 hk, Nat.le_trans h.n8 hk⟩
theorem note_r2 {l : List PV} (h : R2 l) (m p : Int) (b : Bool) : R2 (noteM l m p b) ∧ (noteM l m p b).length ≤ l.length + 1 := by
  unfold noteM
  split
  · exact ⟨h.put m p, putRow_length⟩
  · exact ⟨h, by omega⟩
theorem linkW_ok {L r k : Nat} {w : W} (h : WOk L r k w) (s : Bool) (m p : Int) (b : Bool) : WOk L r (k + 1) (linkW s m p b w) := by
  have g := h.mono (Nat.le_succ k)
  have n := note_r2 h.s8 m p b
  have n8 := h.n8
  cases s
  · exact ⟨g.o, g.i, g.g0, g.g1, g.s6, g.s7, n.1, g.n0, g.n1, g.n6, g.n7, Nat.le_trans n.2 (by omega)⟩
  · exact ⟨g.o, g.i, g.g0, g.g1, g.s6, g.s7, n.1, g.n0, g.n1, g.n6, g.n7, Nat.le_trans n.2 (by omega)⟩
theorem newW_ok {L r k : Nat} {w : W} (h : WOk L r k w) (hL : L ≤ 2) (h1 : 1 ≤ r) (h2 : r ≤ 2) (ru : Str) (s : Bool) (f : Int) : WOk L r k (newW L ru s f w) := by
  cases s
  · refine ⟨?_, h.i, h.g0, h.g1, h.s6, h.s7, h.s8, h.n0, h.n1, h.n6, h.n7, h.n8⟩
    show (⟨0, 0, [], lim0 L ru⟩ : OS) ∈ outs L
    unfold lim0
    split
    · exact (out0_in hL).2
    · exact (out0_in hL).1
  · exact ⟨h.o, in0_in hL h1 h2, h.g0, h.g1, h.s6, h.s7, h.s8, h.n0, h.n1, h.n6, h.n7, h.n8⟩
theorem letterT_ok {L r k : Nat} {w : W} (h : WOk L r k w) (a b : Int) {c : Pc} (hc : c ∈ pcs L) : WOk L r k (letterW true (e6 a b c) w) := by
  unfold letterW
  rw [if_pos rfl, pcOf_e6]
  exact ⟨h.o, fed_in h.i hc, h.g0, h.g1, h.s6, h.s7, h.s8, h.n0, h.n1, h.n6, h.n7, h.n8⟩
theorem letterF_ok {L r k : Nat} {w : W} (h : WOk L r k w) (a b : Int) {hv t : Nat} (ht : t ≤ L + 2) : WOk L r k (letterW false (e7 a b hv t) w) := by
  unfold letterW
  rw [if_neg (by simp), htOf_e7]
  split
  · exact h
  · rename_i e
    exact ⟨room_in (had_in h.o (by omega)) ht, h.i, h.g0, h.g1, h.s6, h.s7, h.s8, h.n0, h.n1, h.n6, h.n7, h.n8⟩
end M76
end
section
set_option Elab.async false
set_option linter.all false
set_option maxRecDepth 100000
set_option maxHeartbeats 4000000
/-! the small worlds, part j: the world behind what is heard; behind any deed. -/
namespace M76
open PySem OL
@[simp] theorem isNon_lk (s m p : Int) (b : Bool) : isNon (lk s m p b) = false := rfl
theorem hear_cases {L r k : Nat} {w : W} (h : WOk L r k w) (s : Bool) (q : Lt) (hq : q ∈ hearL w s) : (∃ a c, q = (true, e2 a c)) ∨ (s = true ∧ ∃ a c, ∃ p ∈ pcs L, q = (false, e6 a c p)) ∨ (s = false ∧ ∃ a c hv t, t ≤ L + 2 ∧ q = (false, e7 a c hv t)) := by
  cases s <;> simp only [hearL, if_true, Bool.false_eq_true, if_false, List.mem_append, List.mem_map] at hq <;> rcases hq with ⟨v, hv, rfl⟩ | ⟨v, hv, rfl⟩
  · obtain ⟨a, b, rfl⟩ := h.g1 v hv
    exact .inl ⟨a, b, rfl⟩
  · obtain ⟨a, b, x, t, hx, ht, rfl⟩ := h.s7 v hv
    exact .inr (.inr ⟨rfl, a, b, x, t, ht, rfl⟩)
  · obtain ⟨a, b, rfl⟩ := h.g0 v hv
    exact .inl ⟨a, b, rfl⟩
  · obtain ⟨a, b, x, hx, rfl⟩ := h.s6 v hv
    exact .inr (.inl ⟨rfl, a, b, x, hx, rfl⟩)
theorem atI_0 (a : PV) (l : List PV) : L2.atI (a :: l) 0 = some a := by
  unfold L2.atI L2.ixN
  rw [if_pos (by decide), if_pos (by simp only [List.length_cons]; omega)]
  rfl
theorem atI_nat {l : List PV} {n : Nat} {x : PV} (h : l[n]? = some x) : L2.atI l (n : Int) = some x := by
  have hn := (List.getElem?_eq_some_iff.mp h).1
  unfold L2.atI L2.ixN
  rw [if_pos (by omega), if_pos (by omega)]
  simpa using h
theorem withL_eq (d : Nat) {L r k : Nat} {w : W} (h : WOk L r k w) (hL : L ≤ 2) (s : Bool) {q : Lt} (hg : q.1 = false) (hq : (s = true ∧ ∃ a c, ∃ p ∈ pcs L, q = (false, e6 a c p)) ∨ (s = false ∧ ∃ a c hv t, t ≤ L + 2 ∧ q = (false, e7 a c hv t))) (μ : Sto) :
    (cfN P (d + 15)).call 89 [pw L r w, .int (sd s), eLp q] μ = .ok (pw L r (letterW s q.2 w)) μ := by
  rcases hq with ⟨rfl, a, c, p, hp, rfl⟩ | ⟨rfl, a, c, hv, t, ht, rfl⟩
  · exact withL_t d h a c hp μ
  · exact withL_f d h hL a c ht μ
theorem letterW_ok {L r k : Nat} {w : W} (h : WOk L r k w) (s : Bool) {q : Lt} (hq : (s = true ∧ ∃ a c, ∃ p ∈ pcs L, q = (false, e6 a c p)) ∨ (s = false ∧ ∃ a c hv t, t ≤ L + 2 ∧ q = (false, e7 a c hv t))) : WOk L r k (letterW s q.2 w) := by
  rcases hq with ⟨rfl, a, c, p, hp, rfl⟩ | ⟨rfl, a, c, hv, t, ht, rfl⟩
  · exact letterT_ok h a c hp
  · exact letterF_ok h a c ht
theorem heardw_eq (d : Nat) {L r k : Nat} {w : W} (h : WOk L r k w) (hk : k ≤ 98) (hL : L ≤ 2) (h1 : 1 ≤ r) (h2 : r ≤ 2) {ru : Str} (hr : SOk ru) (s : Bool) (n : Nat) (q : Lt) (hq : (hearL w s)[n]? = some q) (μ : Sto) :
    (cfN P (d + 17)).call 90 [pw L r w, .int (sd s), nat n, cs L r ru] μ = .ok (pw L r (hearW L ru s q w)) μ := by
  rw [call_at at_heard_world (d + 16) rfl]
  have gl := letters_eq (d + 15) h (by omega) s μ
  have il : idxM μ (.lv ((hearL w s).map eLp)) (nat n) = some (eLp q) := atI_nat (by rw [List.getElem?_map, hq]; rfl)
  have mem := List.mem_of_getElem? hq
  obtain ⟨a, c, t, hv, ht⟩ := hearL_r0 h s q.2 (List.mem_map.mpr ⟨_, mem, rfl⟩)
  have gh : (cfN P (d + 16)).call 75 [.str ru, lkv (W.lk w s) s, .int a, .int c] μ = _ := heard_eq (d + 15) (μ := μ) hr (sd s) (W.lk w s).m (W.lk w s).p (W.lk w s).b a c
  have i0 : idxM μ (eLp q) (.int 0) = some (.str (w2 q.1)) := atI_0 _ _
  have i1 : idxM μ (eLp q) (.int 1) = some (.int a) := by unfold eLp; rw [hv]; exact atI_1 _ _ _
  have i2 : idxM μ (eLp q) (.int 2) = some (.int c) := by unfold eLp; rw [hv]; exact atI_2 _ _ _ _
  have n8 := h.n8
  unfold hearW
  have ea : ltA q.2 = a := by rw [hv]; rfl
  have ec : ltC q.2 = c := by rw [hv]; rfl
  rw [ea, ec]
  cases e : heardM ru (W.lk w s).m (W.lk w s).p (W.lk w s).b a c with
  | none =>
    rw [e] at gh
    have gn := new_eq d w hL h1 h2 hr s a μ
    simp only [nat] at il
    simp [f90, entry, List.replicate, nxO, gl, il, gh, i1, i2, oLk, gn, nat]
  | some x =>
    obtain ⟨m, p, b⟩ := x
    rw [e] at gh
    have gs := note_eq (d + 14) (μ := μ) h.s8.row (by omega) (sd s) m p b
    have gc : (cfN P (d + 16)).call 82 [pw L r w, .dv [.inl (sd s), .inl 8] [lk (sd s) m p b, .tup (noteM w.s8 m p b)]] μ = .ok (pw L r (linkW s m p b w)) μ := by
      rw [chg_eq (d + 15)]
      cases s <;> rfl
    have gtm := takes_eq (d + 15) (μ := μ) (sd s) m p b a m
    have gtc := takes_eq (d + 15) (μ := μ) (sd s) m p b a c
    rw [decide_eq_true (rfl : m = m), Bool.and_true] at gtm
    have gw : q.1 = false → (cfN P (d + 16)).call 89 [pw L r (linkW s m p b w), .int (sd s), eLp q] μ = .ok (pw L r (letterW s q.2 (linkW s m p b w))) μ := by
      intro hg
      have o := linkW_ok h s m p b
      rcases hear_cases h s q mem with ⟨a, c, rfl⟩ | z
      · cases hg
      · exact withL_eq (d + 1) o hL s hg z μ
    simp only
    have tb : takB ru m p b q.2 = (b && decide (a = p) && (rIs ru "to" || decide (c = m))) := by unfold takB; rw [ea, ec]
    rw [tb]
    have j1 : idxM μ (lk (sd s) m p b) (.int 1) = some (.int m) := rfl
    have dd : disD [.int (sd s), lk (sd s) m p b, .int 8, .tup (noteM w.s8 m p b)] ([], []) = some ([.inl (sd s), .inl 8], [lk (sd s) m p b, .tup (noteM w.s8 m p b)]) := by cases s <;> rfl
    simp only [nat] at il
    generalize linkW s m p b w = lw2 at gc gw ⊢
    cases hg : q.1 with
    | true =>
      rw [hg] at i0
      cases ho : rIs ru "to" <;> simp [f90, entry, List.replicate, nxO, gl, il, gh, i0, i1, i2, oLk, nat, hr, so_to, so_greet, ho, gs, gc, j1, SZ, dd, w2]
    | false =>
      have gw := gw hg
      rw [hg] at i0
      have ns : rIs "more" "greet" = false := by decide +kernel
      have sm := so_more
      generalize decide (a = p) = x at gtm gtc ⊢
      generalize decide (c = m) = y at gtc ⊢
      cases ho : rIs ru "to" <;> cases b <;> cases x <;> cases y <;> simp [f90, entry, List.replicate, nxO, gl, il, gh, i0, i1, i2, oLk, nat, hr, so_to, so_greet, sm, ns, ho, gs, gc, j1, SZ, dd, w2, gtm, gtc, gw]
end M76
end
section
set_option Elab.async false
set_option linter.all false
set_option maxRecDepth 100000
set_option maxHeartbeats 4000000
/-! the small worlds, part k: deeds as data; the world behind any. -/
namespace M76
open PySem OL
inductive Dd where
  | greet (s : Bool) | take | lose | room | hear (s : Bool) (n : Nat) (q : Lt) | read | crash (s : Bool)
def dV : Dd → PV
  | .greet s => dSide "greet" s
  | .take => dWord "take"
  | .lose => dWord "lose"
  | .room => dWord "room"
  | .hear s n _ => dHear s n
  | .read => dWord "read"
  | .crash s => dSide "crash" s
def behW (L r : Nat) (ru : Str) : Dd → W → W
  | .greet s, w => greetW s w
  | .take, w => takenW L ru w
  | .lose, w => loseW w
  | .room, w => roomW r ru w
  | .hear s _ q, w => hearW L ru s q w
  | .read, w => readW w
  | .crash s, w => newW L ru s 0 w
def okD (L : Nat) (w : W) : Dd → Prop
  | .take => (takeT L w.o).isSome = true
  | .lose => underT w.o ≠ []
  | .read => w.i.held.contains w.i.rd = true
  | .hear s n q => (hearL w s)[n]? = some q
  | _ => True
def hearD (ru : Str) (b0 b1 : Int) (w : W) (s : Bool) : List Dd := (hearL w s).zipIdx.flatMap fun p => cond (hearB ru b0 b1 w s p.1) [.hear s p.2 p.1] []
def deedsD (L : Nat) (ru : Str) (b0 b1 : Int) (w : W) : List Dd :=
  [.greet false, .greet true] ++ cond (takesB L ru w) [.take] [] ++ cond (underT w.o).isEmpty [] [.lose] ++ cond w.l1.b [.room] [] ++
    hearD ru b0 b1 w false ++ hearD ru b0 b1 w true ++ cond (w.i.held.contains w.i.rd) [.read] [] ++ cond (crashB ru b0 b1 w false) [.crash false] [] ++ cond (crashB ru b0 b1 w true) [.crash true] []
theorem cond_map {α β : Type} (b : Bool) (f : α → β) (x y : List α) : (cond b x y).map f = cond b (x.map f) (y.map f) := by cases b <;> rfl
theorem hearD_map (ru : Str) (b0 b1 : Int) (w : W) (s : Bool) : (hearD ru b0 b1 w s).map dV = hearP ru b0 b1 w s := by
  unfold hearD hearP
  rw [List.map_flatMap]
  congr 1
  funext p
  rw [cond_map]
  rfl
theorem deedsD_map (L : Nat) (ru : Str) (b0 b1 : Int) (w : W) : (deedsD L ru b0 b1 w).map dV = deedsP L ru b0 b1 w := by
  unfold deedsD deedsP
  simp only [List.map_append, hearD_map, cond_map]
  rfl
theorem cond_mem {α : Type} {b : Bool} {x : α} {l : List α} (h : x ∈ cond b l []) : b = true ∧ x ∈ l := by cases b <;> simp_all
theorem deedsD_ok {L : Nat} {ru : Str} {b0 b1 : Int} {w : W} {x : Dd} (h : x ∈ deedsD L ru b0 b1 w) : okD L w x := by
  have hh : ∀ s, x ∈ hearD ru b0 b1 w s → okD L w x := fun s hx => by
    obtain ⟨p, hp, hq⟩ := List.mem_flatMap.mp hx
    obtain ⟨_, hq⟩ := cond_mem hq
    rw [List.mem_singleton] at hq
    subst hq
    exact zip_mem hp
  simp only [deedsD, List.mem_append] at h
  rcases h with ((((((((h | h) | h) | h) | h) | h) | h) | h) | h)
  · simp only [List.mem_cons, List.not_mem_nil, or_false] at h
    rcases h with rfl | rfl <;> trivial
  · obtain ⟨a, b⟩ := cond_mem h
    rw [List.mem_singleton] at b
    subst b
    unfold takesB at a
    simp only [Bool.and_eq_true] at a
    exact a.2
  · cases e : underT w.o with
    | nil => rw [e] at h; cases h
    | cons a r =>
      rw [e] at h
      simp only [List.isEmpty_cons, cond_false, List.mem_singleton] at h
      subst h
      intro z
      rw [e] at z
      cases z
  · obtain ⟨a, b⟩ := cond_mem h
    rw [List.mem_singleton] at b
    subst b
    trivial
  · exact hh _ h
  · exact hh _ h
  · obtain ⟨a, b⟩ := cond_mem h
    rw [List.mem_singleton] at b
    subst b
    exact a
  · obtain ⟨a, b⟩ := cond_mem h
    rw [List.mem_singleton] at b
    subst b
    trivial
  · obtain ⟨a, b⟩ := cond_mem h
    rw [List.mem_singleton] at b
    subst b
    trivial
theorem hearW_ok {L r k : Nat} {w : W} (h : WOk L r k w) (hL : L ≤ 2) (h1 : 1 ≤ r) (h2 : r ≤ 2) (ru : Str) (s : Bool) {q : Lt} (hq : q ∈ hearL w s) : WOk L r (k + 1) (hearW L ru s q w) := by
  unfold hearW
  cases heardM ru (W.lk w s).m (W.lk w s).p (W.lk w s).b (ltA q.2) (ltC q.2) with
  | none => exact (newW_ok h hL h1 h2 ru s _).mono (Nat.le_succ k)
  | some x =>
    obtain ⟨m, p, b⟩ := x
    have o := linkW_ok h s m p b
    rcases hear_cases h s q hq with ⟨a, c, rfl⟩ | z
    · exact o
    · simp only
      cases q.1 || !takB ru m p b q.2
      · exact letterW_ok o s z
      · exact o
theorem behW_ok {L r k : Nat} {w : W} (h : WOk L r k w) (hL : L ≤ 2) (h1 : 1 ≤ r) (h2 : r ≤ 2) (ru : Str) {x : Dd} (hx : okD L w x) : WOk L r (k + 1) (behW L r ru x w) := by
  have g := h.mono (Nat.le_succ k)
  have n0 := h.n0
  have n1 := h.n1
  have n6 := h.n6
  have n7 := h.n7
  cases x with
  | greet s =>
    cases s
    · exact ⟨g.o, g.i, g.g0.put _ _, g.g1, g.s6, g.s7, g.s8, Nat.le_trans putRow_length (by omega), g.n1, g.n6, g.n7, g.n8⟩
    · exact ⟨g.o, g.i, g.g0, g.g1.put _ _, g.s6, g.s7, g.s8, g.n0, Nat.le_trans putRow_length (by omega), g.n6, g.n7, g.n8⟩
  | take =>
    show WOk L r (k + 1) (takenW L ru w)
    unfold takenW
    cases e : takeT L w.o with
    | none => exact g
    | some q =>
      obtain ⟨p, s'⟩ := q
      obtain ⟨a, b⟩ := take_in h.o e
      exact ⟨a, g.i, g.g0, g.g1, g.s6.put _ _ (pcT_mem ru hL b), g.s7, g.s8, g.n0, g.n1, Nat.le_trans putRow_length (by omega), g.n7, g.n8⟩
  | lose => exact ⟨lose_in h.o, g.i, g.g0, g.g1, g.s6, g.s7, g.s8, g.n0, g.n1, g.n6, g.n7, g.n8⟩
  | room =>
    obtain ⟨a, b, c, _⟩ := grant_in h.i
    refine ⟨g.o, a, g.g0, g.g1, g.s6, g.s7.put _ _ ?_ ?_, g.s8, g.n0, g.n1, g.n6, Nat.le_trans putRow_length (by omega), g.n8⟩
    · unfold hv1
      split <;> omega
    · omega
  | hear s n q => exact hearW_ok h hL h1 h2 ru s (List.mem_of_getElem? hx)
  | read => exact ⟨g.o, (read_in h.i hx).1, g.g0, g.g1, g.s6, g.s7, g.s8, g.n0, g.n1, g.n6, g.n7, g.n8⟩
  | crash s => exact (newW_ok h hL h1 h2 ru s 0).mono (Nat.le_succ k)
theorem beh_eq (d : Nat) {L r k : Nat} {w : W} (h : WOk L r k w) (hk : k ≤ 98) (hL : L ≤ 2) (h1 : 1 ≤ r) (h2 : r ≤ 2) {ru : Str} (hr : SOk ru) {x : Dd} (hx : okD L w x) (μ : Sto) :
    (cfN P (d + 18)).call 92 [pw L r w, dV x, cs L r ru] μ = .ok (pw L r (behW L r ru x w)) μ := by
  rw [call_at at_stream_behind (d + 17) rfl]
  have ch := fun ks vs => chg_eq (d + 16) L r w ks vs μ
  have n0 := h.n0
  have n1 := h.n1
  have q1 : rIs "take" "greet" = false := by decide +kernel
  have q2 : rIs "lose" "greet" = false := by decide +kernel
  have q3 : rIs "room" "greet" = false := by decide +kernel
  have q4 : rIs "hear" "greet" = false := by decide +kernel
  have q5 : rIs "read" "greet" = false := by decide +kernel
  have q6 : rIs "crash" "greet" = false := by decide +kernel
  have q7 : rIs "lose" "take" = false := by decide +kernel
  have q8 : rIs "room" "take" = false := by decide +kernel
  have q9 : rIs "hear" "take" = false := by decide +kernel
  have q10 : rIs "read" "take" = false := by decide +kernel
  have q11 : rIs "crash" "take" = false := by decide +kernel
  have q12 : rIs "room" "lose" = false := by decide +kernel
  have q13 : rIs "hear" "lose" = false := by decide +kernel
  have q14 : rIs "read" "lose" = false := by decide +kernel
  have q15 : rIs "crash" "lose" = false := by decide +kernel
  have q16 : rIs "hear" "room" = false := by decide +kernel
  have q17 : rIs "read" "room" = false := by decide +kernel
  have q18 : rIs "crash" "room" = false := by decide +kernel
  have q19 : rIs "read" "hear" = false := by decide +kernel
  have q20 : rIs "crash" "hear" = false := by decide +kernel
  have q21 : rIs "crash" "read" = false := by decide +kernel
  cases x with
  | greet s =>
    have p0 := put_in_eq (d + 16) (μ := μ) h.g0.row (xs := _) (sh2 w.l0.m w.l0.p) (by omega)
    have p1 := put_in_eq (d + 16) (μ := μ) h.g1.row (xs := _) (sh2 w.l1.m w.l1.p) (by omega)
    cases s <;> simp [f92, entry, List.replicate, nxO, dV, dSide, sd, L2.atI, L2.ixN, so_greet, SZ, e2, p0, p1, ch] <;> rfl
  | take =>
    have g := taken_eq (d + 2) h (by omega) hr hx μ
    simp [f92, entry, List.replicate, nxO, dV, dWord, L2.atI, L2.ixN, so_greet, so_take, q1, g, behW]
  | lose =>
    have g := lostw_eq (d + 2) h hx μ
    simp [f92, entry, List.replicate, nxO, dV, dWord, L2.atI, L2.ixN, so_greet, so_take, so_lose, q2, q7, g, behW]
  | room =>
    have g := roomed_eq (d + 2) h (by omega) hr μ
    simp [f92, entry, List.replicate, nxO, dV, dWord, L2.atI, L2.ixN, so_greet, so_take, so_lose, so_room, q3, q8, q12, g, behW]
  | hear s n q =>
    have g := heardw_eq d h hk hL h1 h2 hr s n q hx μ
    simp only [nat] at g
    simp [f92, entry, List.replicate, nxO, dV, dHear, nat, L2.atI, L2.ixN, so_greet, so_take, so_lose, so_room, so_hear, q4, q9, q13, q16, g, behW]
  | read =>
    have g := read_eq (d + 4) h.i hx μ
    have ch := fun ks vs => chg_eq (d + 16) L r w ks vs μ
    simp [f92, entry, List.replicate, nxO, dV, dWord, nat, L2.atI, L2.ixN, so_greet, so_take, so_lose, so_room, so_hear, so_read, q5, q10, q14, q17, q19, g, SZ, ch, behW]
    rfl
  | crash s =>
    have g := new_eq (d + 1) w hL h1 h2 hr s 0 μ
    simp [f92, entry, List.replicate, nxO, dV, dSide, L2.atI, L2.ixN, so_greet, so_take, so_lose, so_room, so_hear, so_read, so_crash, q6, q11, q15, q18, q20, q21, g, behW]
end M76
end
section
set_option Elab.async false
set_option linter.all false
set_option maxRecDepth 100000
set_option maxHeartbeats 4000000
/-! the small worlds, part l: the law's worlds behind a deed. -/
namespace M76
open PySem OL
theorem at_law_stream_taken : P.funs[115]? = some f115 := fun_at defs_eq _ rfl
theorem at_law_stream_roomed : P.funs[116]? = some f116 := fun_at defs_eq _ rfl
theorem at_law_stream_new : P.funs[118]? = some f118 := fun_at defs_eq _ rfl
theorem at_law_stream_heard : P.funs[119]? = some f119 := fun_at defs_eq _ rfl
theorem at_law_stream_sending : P.funs[120]? = some f120 := fun_at defs_eq _ rfl
theorem at_law_stream_deeds : P.funs[121]? = some f121 := fun_at defs_eq _ rfl
theorem at_law_stream_first : P.funs[111]? = some f111 := fun_at defs_eq _ rfl
theorem lchg_eq (d : Nat) (w : W) (ks : List Ky) (vs : List PV) (μ : Sto) : (cfN P (d + 1)).call 109 [lw w, .dv ks vs] μ = .ok (.tup (chM (lwL w) ks vs)) μ := with_eq d (by simp [lwL])
theorem cutd (n : Nat) (l : List PV) : cutL l (some (n : Int)) none = l.drop n := by
  unfold cutL
  have e1 : HT.sIx l.length l.length none = l.length := rfl
  rw [e1]
  have e2 : HT.sIx l.length 0 (some (n : Int)) = min n l.length := by
    unfold HT.sIx
    simp
    try omega
  rw [e2]
  by_cases h : n ≤ l.length
  · rw [Nat.min_eq_left h, List.take_of_length_le (by simp)]
  · rw [Nat.min_eq_right (by omega), List.drop_length, List.drop_eq_nil_of_le (by omega)]
    simp
theorem cut1 (x : PV) (l : List PV) : cutL (x :: l) (some 1) none = l := cutd 1 (x :: l)
theorem cut2 (x y : PV) (l : List PV) : cutL (x :: y :: l) (some 2) none = l := cutd 2 (x :: y :: l)
@[simp] theorem cutM_tup (l : List PV) (a b : Option Int) : cutM (.tup l) a b = some (.tup (cutL l a b)) := rfl
@[simp] theorem cutM_lv (l : List PV) (a b : Option Int) : cutM (.lv l) a b = some (.lv (cutL l a b)) := rfl
theorem nats_pus (l : List Nat) : pus 1 (l.map nat) = true := pus_all.mpr fun v hv => by
  obtain ⟨p, _, rfl⟩ := List.mem_map.mp hv
  rfl
theorem ltaken_eq (d : Nat) {L r k : Nat} {w : W} (h : WOk L r k w) (hk : k ≤ 100) {ru : Str} (hr : SOk ru) (ht : (takeT L w.o).isSome = true) (μ : Sto) : (cfN P (d + 13)).call 115 [lw w, nat L, .str ru] μ = .ok (lw (takenW L ru w)) μ := by
  rw [call_at at_law_stream_taken (d + 12) rfl]
  have gt := ltk_eq h.o μ (n := d + 12) (by omega)
  have n6 := h.n6
  have ch := fun ks vs => lchg_eq (d + 11) w ks vs μ
  have nn := ne_nil (nats_pus w.o.lost) (by decide) μ
  cases e : takeT L w.o with
  | none => rw [e] at ht; cases ht
  | some q =>
    obtain ⟨p, s'⟩ := q
    rw [e] at gt
    have gp := law_put_eq (d + 11) (μ := μ) h.s6.row (xs := _) (sh6 w.l0.m w.l0.p (pcT L ru p)) (by omega)
    have tw : takenW L ru w = { w with o := s', s6 := putRow w.s6 (e6 w.l0.m w.l0.p (pcT L ru p)) } := by unfold takenW; rw [e]
    rw [tw]
    have hs : (w.o.lost = [] ∧ s' = ⟨w.o.k, w.o.n + 1, [], w.o.lim⟩) ∨ (∃ rr, w.o.lost = p :: rr ∧ s' = { w.o with lost := rr }) := by
      unfold takeT at e
      cases hl : w.o.lost with
      | nil =>
        rw [hl] at e
        simp only at e
        split at e
        · cases e
          exact .inl ⟨rfl, rfl⟩
        · cases e
      | cons x rr =>
        rw [hl] at e
        cases e
        exact .inr ⟨rr, rfl, rfl⟩
    have eb : eBox w.o = .tup [nat w.o.k, nat w.o.n, .tup (w.o.lost.map nat), nat w.o.lim] := rfl
    by_cases hp : p < L
    · have e3 : pcT L ru p = ⟨p, true, rIs ru "end" && decide (p + 2 = L)⟩ := by unfold pcT; rw [if_pos hp, decide_eq_true hp]
      rw [e3] at gp ⊢
      have hp' : (p : Int) < (L : Int) := by omega
      have hc : decide ((p : Int) + 2 = (L : Int)) = decide (p + 2 = L) := by
        by_cases z : p + 2 = L
        · rw [decide_eq_true z, decide_eq_true (by omega)]
        · rw [decide_eq_false z, decide_eq_false (by omega)]
      generalize decide (p + 2 = L) = x at hc gp ⊢
      rw [eb] at gt
      simp only [nat, nats, List.map, if_true, oN, Option.map_some] at gp gt
      rcases hs with ⟨hl, rfl⟩ | ⟨rr, hl, rfl⟩
      · rw [hl] at gt eb nn
        cases he : rIs ru "end" <;> cases x <;> simp [he, nat] at gp gt nn <;> simp [f115, entry, List.replicate, nxO, gt, hr, so_end, he, nat, nats, hc, hp', add_tup, e2, SZ, gp, ch, eb, nn] <;> rfl
      · rw [hl] at gt eb nn
        cases he : rIs ru "end" <;> cases x <;> simp [he, nat] at gp gt nn <;> simp [f115, entry, List.replicate, nxO, gt, hr, so_end, he, nat, nats, hc, hp', add_tup, e2, SZ, gp, ch, eb, nn, cut1] <;> rfl
    · have e3 : pcT L ru p = ⟨p, false, true⟩ := by unfold pcT; rw [if_neg hp, decide_eq_false hp]
      rw [e3] at gp ⊢
      have hp' : ¬ (p : Int) < (L : Int) := by omega
      rw [eb] at gt
      simp only [nat, nats, List.map, Bool.false_eq_true, if_false, oN, Option.map_some] at gp gt
      rcases hs with ⟨hl, rfl⟩ | ⟨rr, hl, rfl⟩
      · rw [hl] at gt eb nn
        simp [nat] at gt nn
        simp [f115, entry, List.replicate, nxO, gt, hr, so_end, nat, nats, hp', add_tup, e2, SZ, gp, ch, eb, nn]
        rfl
      · rw [hl] at gt eb nn
        simp [nat] at gt nn
        simp [f115, entry, List.replicate, nxO, gt, hr, so_end, nat, nats, hp', add_tup, e2, SZ, gp, ch, eb, nn, cut1]
        rfl
theorem lroomed_eq (d : Nat) {L r k : Nat} {w : W} (h : WOk L r k w) (hk : k ≤ 100) {ru : Str} (hr : SOk ru) (μ : Sto) : (cfN P (d + 13)).call 116 [lw w, nat r, .str ru] μ = .ok (lw (roomW r ru w)) μ := by
  rw [call_at at_law_stream_roomed (d + 12) rfl]
  have n7 := h.n7
  have gh := lhv_eq h.i μ (n := d + 12) (by omega)
  have gp := law_put_eq (d + 11) (μ := μ) h.s7.row (xs := _) (sh7 w.l1.m w.l1.p (haveT w.i + hv1 ru) (w.i.rd + r)) (by omega)
  have ch := fun ks vs => lchg_eq (d + 11) w ks vs μ
  have eb : eIn w.i = .tup [nat w.i.rd, nats w.i.held, oN w.i.stop, nat w.i.gr] := rfl
  have po : OL.plain (oN w.i.stop) = some (oN w.i.stop) := by cases w.i.stop <;> rfl
  rw [eb] at gh
  have pn : OL.plain (nats w.i.held) = some (nats w.i.held) := rfl
  simp only [nat] at gh gp
  cases he : rIs ru "have" <;> simp [hv1, he] at gp <;> simp [f116, entry, List.replicate, nxO, gh, hr, so_have, he, nat, add_tup, e2, SZ, gp, ch, eb, po, pn] <;> simp [roomW, hv1, he, lw, lwL, chM, lookK, e7, nat, grantT, eIn]
theorem lfirst_eq (d : Nat) (L : Nat) {ru : Str} (hr : SOk ru) (μ : Sto) : (cfN P (d + 1)).call 111 [nat L, .str ru] μ = .ok (lw ⟨⟨1, 0, false⟩, ⟨2, 0, false⟩, ⟨0, 0, [], lim0 L ru⟩, ⟨0, [], none, 0⟩, [], [], [], [], []⟩) μ := by
  rw [call_at at_law_stream_first d rfl]
  cases he : rIs ru "limit" <;> simp [f111, entry, List.replicate, nxO, hr, so_limit, he, SZ, lim0] <;> rfl
theorem lnew_eq (d : Nat) {L r : Nat} (w : W) {ru : Str} (hr : SOk ru) (s : Bool) (f : Int) (μ : Sto) : (cfN P (d + 2)).call 118 [lw w, .int (sd s), .int f, cs L r ru] μ = .ok (lw (newW L ru s f w)) μ := by
  rw [call_at at_law_stream_new (d + 1) rfl]
  have gf := lfirst_eq d L hr μ
  have ch := fun ks vs => lchg_eq d w ks vs μ
  simp only [nat] at gf
  cases s <;> cases he : rIs ru "count" <;> by_cases hf : f = 0 <;> simp [f118, entry, List.replicate, nxO, gf, cs, nat, sd, SZ, hr, so_count, he, hf, ch] <;> simp [newW, nextM, he, hf] <;> rfl
end M76
end
section
set_option Elab.async false
set_option linter.all false
set_option maxRecDepth 100000
set_option maxHeartbeats 4000000
/-! the small worlds, part m: the law's world behind what is heard. -/
namespace M76
open PySem OL
theorem bmax2 (i j : Int) (μ : Sto) : bltM .max [.int i, .int j] μ = .ok (.int (max i j)) μ := rfl
theorem bmin2 (i j : Int) (μ : Sto) : bltM .min [.int i, .int j] μ = .ok (.int (min i j)) μ := rfl
theorem bmaxN (i j : Nat) (μ : Sto) : bltM .max [.int (i : Int), .int (j : Int)] μ = .ok (.int ((max i j : Nat) : Int)) μ := by
  rw [bmax2, show max (i : Int) (j : Int) = ((max i j : Nat) : Int) by omega]
theorem btup_lv (l : List PV) (μ : Sto) (h : l.length ≤ 16777216) : bltM .tuple [.lv l] μ = .ok (.tup l) μ := by
  show Res.opt (if l.length ≤ SZ then some (PV.tup l) else none) μ = _
  rw [if_pos h]
  rfl
theorem outs_len {L : Nat} {s : OS} (h : s ∈ outs L) : s.lost.length ≤ 5 := by
  have k : (osL.all fun q => decide (q.2.lost.length ≤ 5)) = true := by decide +kernel
  exact of_decide_eq_true (List.all_eq_true.mp k _ (os_mem h))
@[simp] theorem lk_3 (s m p : Int) (b : Bool) (μ : Sto) : idxM μ (lk s m p b) (.int 3) = some (.str (ph b)) := rfl
@[simp] theorem lk_2 (s m p : Int) (b : Bool) (μ : Sto) : idxM μ (lk s m p b) (.int 2) = some (.int p) := rfl
@[simp] theorem lk_1 (s m p : Int) (b : Bool) (μ : Sto) : idxM μ (lk s m p b) (.int 1) = some (.int m) := rfl
def hearO (L : Nat) (ru : Str) (s : Bool) (q : Lt) (w : W) : PV := if (heardM ru (W.lk w s).m (W.lk w s).p (W.lk w s).b (ltA q.2) (ltC q.2)).isSome = true then lw (hearW L ru s q w) else .non
theorem evSs_app (cf : CF) : ∀ (a b : List S) (env : OL.Env) (μ : Sto), evSs cf (a ++ b) env μ = (evSs cf a env μ).seq (evSs cf b)
  | [], b, env, μ => by
    rw [evSs]
    rfl
  | x :: a, b, env, μ => by
    rw [List.cons_append, evSs, evSs]
    cases evS cf x env μ with
    | err => rfl
    | exc c fs e m => rfl
    | ok f e m =>
      cases f <;> first | rfl | exact evSs_app cf a b e m
/-- a piece fed -/
theorem lfedw (d : Nat) {L r k : Nat} {w : W} (h : WOk L r k w) (a b : Int) {c : Pc} (hc : c ∈ pcs L) (μ : Sto) : (cfN P (d + 13)).call 109 [lw w, .dv [.inl 3] [eIn (fedT w.i c)]] μ = .ok (lw (letterW true (e6 a b c) w)) μ := by
  rw [lchg_eq (d + 12)]
  unfold letterW
  rw [if_pos rfl, pcOf_e6]
  rfl
theorem lheard_eq (d : Nat) {L r k : Nat} {w : W} (h : WOk L r k w) (hk : k ≤ 98) {ru : Str} (hr : SOk ru) (s : Bool) (q : Lt) (mem : q ∈ hearL w s) (μ : Sto) :
    (cfN P (d + 14)).call 119 [lw w, .int (sd s), q.2, .str (w2 q.1), cs L r ru] μ = .ok (hearO L ru s q w) μ := by
  rw [call_at at_law_stream_heard (d + 13) rfl]
  obtain ⟨a, c, t, hv, ht⟩ := hearL_r0 h s q.2 (List.mem_map.mpr ⟨_, mem, rfl⟩)
  have gh : (cfN P (d + 13)).call 106 [.str ru, lkv (W.lk w s) s, .int a, .int c] μ = _ := law_heard_eq (d + 12) (μ := μ) hr (sd s) (W.lk w s).m (W.lk w s).p (W.lk w s).b a c
  have i0 : idxM μ q.2 (.int 0) = some (.int a) := by rw [hv]; exact atI_0 _ _
  have i1 : idxM μ q.2 (.int 1) = some (.int c) := by rw [hv]; exact atI_1 _ _ _
  have pq : OL.plain q.2 = some q.2 := by rw [hv]; rfl
  have n8 := h.n8
  unfold hearO hearW
  have ea : ltA q.2 = a := by rw [hv]; rfl
  have ec : ltC q.2 = c := by rw [hv]; rfl
  rw [ea, ec]
  cases e : heardM ru (W.lk w s).m (W.lk w s).p (W.lk w s).b a c with
  | none =>
    rw [e] at gh
    simp [f119, entry, List.replicate, nxO, gh, i0, i1, pq, oLk, nat]
  | some x =>
    obtain ⟨m, p, b⟩ := x
    rw [e] at gh
    have gs := law_note_eq (d + 11) (μ := μ) h.s8.row (by omega) (sd s) m p b
    have gc : (cfN P (d + 13)).call 109 [lw w, .dv [.inl (sd s), .inl 8] [lk (sd s) m p b, .tup (noteM w.s8 m p b)]] μ = .ok (lw (linkW s m p b w)) μ := by
      rw [lchg_eq (d + 12)]
      cases s <;> rfl
    simp only [Option.isSome_some, if_true]
    have dd : disD [.int (sd s), lk (sd s) m p b, .int 8, .tup (noteM w.s8 m p b)] ([], []) = some ([.inl (sd s), .inl 8], [lk (sd s) m p b, .tup (noteM w.s8 m p b)]) := by cases s <;> rfl
    have ok := linkW_ok h s m p b
    have ns : rIs "more" "greet" = false := by decide +kernel
    have sm := so_more
    have tb : takB ru m p b q.2 = (b && (decide (p = a) && (decide (c = m) || rIs ru "to"))) := by
      unfold takB
      rw [ea, ec, Bool.or_comm, show decide (a = p) = decide (p = a) from decide_eq_decide.mpr eq_comm, Bool.and_assoc]
    generalize linkW s m p b w = lw2 at gc ok ⊢
    have hA : evSs (cfN P (d + 13)) [(.asg (.nm 5) (.call 106 [(.idx (.var 4) (.con (.int (2)))), (.idx (.var 0) (.var 1)), (.idx (.var 2) (.con (.int (0)))), (.idx (.var 2) (.con (.int (1))))])), (.iff (.cmp .isn (.var 5) (.con (.non))) [(.ret (some (.con (.non))))] []), (.asg (.nm 6) (.call 109 [(.var 0), (.dic [(.var 1), (.var 5), (.con (.int (8))), (.call 108 [(.idx (.var 0) (.con (.int (8)))), (.var 5)])])]))] [some (lw w), some (.int (sd s)), some q.2, some (.str (w2 q.1)), some (cs L r ru), none, none, none, none, none, none, none, none, none] μ = .ok .nx [some (lw w), some (.int (sd s)), some q.2, some (.str (w2 q.1)), some (cs L r ru), some (lk (sd s) m p b), some (lw lw2), none, none, none, none, none, none, none] μ := by
      simp [nxO, gh, i0, i1, pq, oLk, hr, gs, gc, SZ, dd]
    have hB : evS (cfN P (d + 13)) (.asg (.nm 7) (.and (.cmp .eq (.idx (.var 5) (.con (.int (3)))) (.con (.str "sure"))) (.and (.cmp .eq (.idx (.var 5) (.con (.int (2)))) (.idx (.var 2) (.con (.int (0))))) (.or (.cmp .eq (.idx (.var 2) (.con (.int (1)))) (.idx (.var 5) (.con (.int (1))))) (.cmp .eq (.idx (.var 4) (.con (.int (2)))) (.con (.str "to"))))))) [some (lw w), some (.int (sd s)), some q.2, some (.str (w2 q.1)), some (cs L r ru), some (lk (sd s) m p b), some (lw lw2), none, none, none, none, none, none, none] μ = .ok .nx [some (lw w), some (.int (sd s)), some q.2, some (.str (w2 q.1)), some (cs L r ru), some (lk (sd s) m p b), some (lw lw2), some (.bl (takB ru m p b q.2)), none, none, none, none, none, none] μ := by
      rw [tb]
      simp only [st_asg, ev_and, ev_cmp, ev_idx, ev_var, ev_con, ev_or, slot_s, slot_z, Option.bind_some, pl_lk, lk_3, lk_2, lk_1, Res.bind_ok, Res.opt_some, plain_int, pq, i0, i1, cmp_ph, cmp_eqI, pl_cs, cs_2, eqS hr so_to, Option.map_some, trR_bl, if_or1, if_and1, Res.thn_ok, as_nm]
      rfl
    show outR (evSs (cfN P (d + 13)) ([_, _, _] ++ (_ :: _)) [some (lw w), some (.int (sd s)), some q.2, some (.str (w2 q.1)), some (cs L r ru), none, none, none, none, none, none, none, none, none] μ) = _
    rw [evSs_app, hA, seq_nx, st_cons, hB, seq_nx]
    rcases hear_cases h s q mem with ⟨x, y, rfl⟩ | ⟨rfl, x, y, z, hz, rfl⟩ | ⟨rfl, x, y, hq, tt, htt, rfl⟩
    · simp [so_greet, w2]
    · have g1 := fed_eq ok.i hz μ (n := d + 13) (by omega)
      have g2 := lfedw d ok x y hz μ
      have sl : cutM (e6 x y z) (some 2) none = some (ePc z) := rfl
      simp only at i0 i1 pq
      simp only [sd, if_true]
      cases takB ru m p b (e6 x y z) <;> simp [so_greet, w2, sm, ns, SZ, pq, sl, g1, g2]
    · have sl2 : idxM μ (e7 x y hq tt) (.int 2) = some (.int hq) := rfl
      have sl3 : idxM μ (e7 x y hq tt) (.int 3) = some (.int tt) := rfl
      have lo := outs_len ok.o
      have hcmp : ∀ v0 v1 v2 v3 v4 v5 v6 v7 v9 v11 v12 v13, evE (cfN P (d + 13)) (.comp (.var 13) (.nm 13) (.var 10) (some (.cmp .ge (.var 13) (.var 8))) [13]) [v0, v1, v2, v3, v4, v5, v6, v7, some (.int ((max lw2.o.k hq : Nat) : Int)), v9, some (nats lw2.o.lost), v11, v12, v13] μ = .ok (.lv ((lw2.o.lost.filter fun p => decide (max lw2.o.k hq ≤ p)).map nat)) μ := by
        intro v0 v1 v2 v3 v4 v5 v6 v7 v9 v11 v12 v13
        refine comp_filter (it := nat) (src := nats lw2.o.lost) (by simp [nats]) (wk_tup μ _) (fun u hu => ⟨[v0, v1, v2, v3, v4, v5, v6, v7, some (.int ((max lw2.o.k hq : Nat) : Int)), v9, some (nats lw2.o.lost), v11, v12, some (nat u)], by simp [wipeE, nat], by simp [nat], fun _ => by simp [nat]⟩) (by unfold SZ; omega)
      have tl : ((lw2.o.lost.filter fun p => decide (max lw2.o.k hq ≤ p)).map nat).length ≤ 16777216 := by
        rw [List.length_map]
        have := List.length_filter_le (fun p => decide (max lw2.o.k hq ≤ p)) lw2.o.lost
        omega
      have g2 : (cfN P (d + 13)).call 109 [lw lw2, .dv [.inl 2] [.tup [.int ((max lw2.o.k hq : Nat) : Int), .int (lw2.o.n : Int), .tup ((lw2.o.lost.filter fun p => decide (max lw2.o.k hq ≤ p)).map nat), .int ((max lw2.o.lim tt : Nat) : Int)]]] μ = .ok (lw { lw2 with o := roomT (hadT lw2.o hq) tt }) μ := by
        rw [lchg_eq (d + 12)]
        rfl
      have pn : OL.plain (nats lw2.o.lost) = some (nats lw2.o.lost) := rfl
      have eb : eBox lw2.o = .tup [.int lw2.o.k, .int lw2.o.n, nats lw2.o.lost, .int lw2.o.lim] := rfl
      have zl : letterW false (e7 x y hq tt) lw2 = if lw2.o.n < hq then lw2 else { lw2 with o := roomT (hadT lw2.o hq) tt } := rfl
      simp only at i0 i1 pq
      simp only [sd, Bool.false_eq_true, if_false]
      cases takB ru m p b (e7 x y hq tt) with
      | false => simp [so_greet, w2, sm, ns, SZ, pq]
      | true =>
        by_cases hn : lw2.o.n < hq
        · have hn' : (lw2.o.n : Int) < (hq : Int) := by omega
          simp [so_greet, w2, sm, ns, SZ, pq, sl2, eb, hn', hn, zl, pn, nxO]
        · have hn' : ¬ (lw2.o.n : Int) < (hq : Int) := by omega
          simp [so_greet, w2, sm, ns, SZ, pq, sl2, sl3, eb, hn', hn, zl, pn, nxO, bmaxN, hcmp, btup_lv _ _ tl, g2]
end M76
end
section
set_option Elab.async false
set_option linter.all false
set_option maxRecDepth 100000
set_option maxHeartbeats 4000000
/-! the small worlds, part n: the law's deeds with the worlds behind them. -/
namespace M76
open PySem OL
@[simp] theorem isNon_nat (n : Nat) : isNon (nat n) = false := rfl
theorem oap_at {cf : CF} {i : Nat} {e : E} {env : OL.Env} {μ : Sto} {acc : List PV} {v : PV} (h : env[i]? = some (some (.own (.lv acc)))) (he : evE cf e env μ = .ok v μ) (hl : acc.length < 16777216) : evS cf (.oap i e) env μ = .ok .nx (env.set i (some (.own (.lv (acc ++ [v]))))) μ := by
  have g : getO env i = some (.lv acc) := by unfold getO slot; rw [h]; rfl
  have hi : i < env.length := (List.getElem?_eq_some_iff.mp h).1
  rw [evS, g]
  simp only [he, Res.thn_ok, appV]
  rw [if_pos hl]
  simp only [Option.bind_some, setO, setSlot]
  rw [if_pos hi]
  rfl
theorem iffapp_at {cf : CF} {i : Nat} {c e : E} {env : OL.Env} {μ : Sto} {acc : List PV} {v : PV} {b : Bool} (h : env[i]? = some (some (.own (.lv acc)))) (hc : (evE cf c env μ).bind trR = .ok b μ) (he : b = true → evE cf e env μ = .ok v μ) (hl : acc.length < 16777216) : evS cf (.iff c [.oap i e] []) env μ = .ok .nx (env.set i (some (.own (.lv (acc ++ cond b [v] []))))) μ := by
  rw [evS, hc]
  simp only [Res.thn_ok]
  cases b with
  | false =>
    rw [if_neg (by simp), evSs]
    have : env.set i (some (.own (.lv (acc ++ cond false [v] [])))) = env := by
      apply List.ext_getElem?
      intro j
      rw [List.getElem?_set]
      by_cases hj : i = j
      · subst hj
        have hi : i < env.length := (List.getElem?_eq_some_iff.mp h).1
        have z := h
        rw [List.getElem?_eq_getElem hi] at z
        simp [hi, Option.some.inj z]
      · simp [hj]
    rw [this]
  | true =>
    rw [if_pos rfl, evSs, oap_at h (he rfl) hl]
    show evSs cf [] _ μ = _
    rw [evSs]
    rfl
theorem wk_rg2 (μ : Sto) : Wk μ (.rg 0 2 1) [.int 0, .int 1] := by
  have z := wk_rg μ (a := 0) (b := 2) rfl
  exact z
theorem at_law_small_put : P.funs[105]? = some f105 := fun_at defs_eq _ rfl
theorem F_lso (μ : Sto) (v0 v1 v2 v3 v4 v5 v6 v7 v8 v10 v11 v13 : Option PV) : osL.map (fun p => evE (cfN P 12) (.blt .tuple [(.blt .sorted [(.bin .add (.var 12) (.var 9))])]) [v0, v1, v2, v3, v4, v5, v6, v7, v8, some (nats (underT p.2)), v10, v11, some (nats p.2.lost), v13] μ) = osL.map fun p => Res.ok (nats (upTo p.2.k p.2.n)) μ := by kernel_rfl
/-- what the law lists for a deed -/
def pairV (L r : Nat) (ru : Str) (w : W) (x : Dd) : PV := .tup [dV x, lw (behW L r ru x w)]
def sendD (L : Nat) (ru : Str) (w : W) : List Dd := [.greet false, .greet true] ++ cond (takesB L ru w) [.take] [] ++ cond (!(underT w.o).isEmpty) [.lose] [] ++ cond w.l1.b [.room] []
theorem lsend_eq (d : Nat) {L r k : Nat} {w : W} (h : WOk L r k w) (hk : k ≤ 98) {ru : Str} (hr : SOk ru) (μ : Sto) : (cfN P (d + 15)).call 120 [lw w, cs L r ru] μ = .ok (.own (.lv ((sendD L ru w).map (pairV L r ru w)))) μ := by
  rw [call_at at_law_stream_sending (d + 14) rfl]
  have ch := fun ks vs => lchg_eq (d + 13) w ks vs μ
  have n0 := h.n0
  have n1 := h.n1
  have p0 := law_put_eq (d + 13) (μ := μ) h.g0.row (xs := _) (sh2 w.l0.m w.l0.p) (by omega)
  have p1 := law_put_eq (d + 13) (μ := μ) h.g1.row (xs := _) (sh2 w.l1.m w.l1.p) (by omega)
  have gt := ltk_eq h.o μ (n := d + 14) (by omega)
  have gu := lun_eq h.o μ (n := d + 14) (by omega)
  have gr := lroomed_eq (d + 1) h (by omega) hr μ
  have un := ne_nil (nats_pus (underT w.o)) (by decide) μ
  have pn : ∀ l, OL.plain (nats l) = some (nats l) := fun _ => rfl
  have dn : ∀ l, disown (nats l) = nats l := fun _ => rfl
  have eb : eBox w.o = .tup [nat w.o.k, nat w.o.n, nats w.o.lost, nat w.o.lim] := rfl
  -- greetings
  have st := forr_at (cf := cfN P (d + 14)) (env := [some (lw w), some (cs L r ru), some (nat L), some (nat r), some (.str ru), some (.own (.lv [])), none, none, none, none, none, none, none, none]) (μ := μ) (μ' := μ) (t := .nm 6) (it := .rng [(.con (.int (2)))])
    (b := [(.asg (.nm 7) (.call 105 [(.idx (.var 0) (.bin .add (.con (.int (4))) (.var 6))), (.slc (.idx (.var 0) (.var 6)) (some (.con (.int (1)))) (some (.con (.int (3)))))])), (.oap 5 (.tup [(.tup [(.con (.str "greet")), (.var 6)]), (.call 109 [(.var 0), (.dic [(.bin .add (.con (.int (4))) (.var 6)), (.var 7)])])]))]) (v := .rg 0 2 1) (l := [.int 0, .int 1]) (by simp [rgOf]) (wk_rg2 μ)
  rw [forL_step (env1 := [some (lw w), some (cs L r ru), some (nat L), some (nat r), some (.str ru), some (.own (.lv [])), some (.int 0), none, none, none, none, none, none, none])
      (env2 := [some (lw w), some (cs L r ru), some (nat L), some (nat r), some (.str ru), some (.own (.lv [pairV L r ru w (.greet false)])), some (.int 0), some (.tup (putRow w.g0 (e2 w.l0.m w.l0.p))), none, none, none, none, none, none]) (μ' := μ) (by simp) (by
        rw [st_cons, st_asg]
        have : evE (cfN P (d + 14)) (.call 105 [(.idx (.var 0) (.bin .add (.con (.int (4))) (.var 6))), (.slc (.idx (.var 0) (.var 6)) (some (.con (.int (1)))) (some (.con (.int (3)))))]) [some (lw w), some (cs L r ru), some (nat L), some (nat r), some (.str ru), some (.own (.lv [])), some (.int 0), none, none, none, none, none, none, none] μ = .ok (.tup (putRow w.g0 (e2 w.l0.m w.l0.p))) μ := by simp [e2, p0]
        rw [this]
        simp only [Res.thn_ok, as_nm, List.length_cons, List.length_nil]
        rw [if_pos (by decide), nxO_some, seq_nx]
        simp only [List.set]
        rw [st_cons, oap_at (acc := []) (v := pairV L r ru w (.greet false)) rfl (by simp [SZ, ch]; rfl) (by simp)]
        rfl),
    forL_step (env1 := [some (lw w), some (cs L r ru), some (nat L), some (nat r), some (.str ru), some (.own (.lv [pairV L r ru w (.greet false)])), some (.int 1), some (.tup (putRow w.g0 (e2 w.l0.m w.l0.p))), none, none, none, none, none, none])
      (env2 := [some (lw w), some (cs L r ru), some (nat L), some (nat r), some (.str ru), some (.own (.lv [pairV L r ru w (.greet false), pairV L r ru w (.greet true)])), some (.int 1), some (.tup (putRow w.g1 (e2 w.l1.m w.l1.p))), none, none, none, none, none, none]) (μ' := μ) (by simp) (by
        rw [st_cons, st_asg]
        have : evE (cfN P (d + 14)) (.call 105 [(.idx (.var 0) (.bin .add (.con (.int (4))) (.var 6))), (.slc (.idx (.var 0) (.var 6)) (some (.con (.int (1)))) (some (.con (.int (3)))))]) [some (lw w), some (cs L r ru), some (nat L), some (nat r), some (.str ru), some (.own (.lv [pairV L r ru w (.greet false)])), some (.int 1), some (.tup (putRow w.g0 (e2 w.l0.m w.l0.p))), none, none, none, none, none, none] μ = .ok (.tup (putRow w.g1 (e2 w.l1.m w.l1.p))) μ := by simp [e2, p1]
        rw [this]
        simp only [Res.thn_ok, as_nm, List.length_cons, List.length_nil]
        rw [if_pos (by decide), nxO_some, seq_nx]
        simp only [List.set]
        rw [st_cons, oap_at (acc := [pairV L r ru w (.greet false)]) (v := pairV L r ru w (.greet true)) rfl (by simp [SZ, ch]; rfl) (by simp)]
        rfl), forL_nil] at st
  show outR (evSs (cfN P (d + 14)) (_ :: _ :: _ :: _ :: _ :: _ :: _ :: _ :: _ :: []) [some (lw w), some (cs L r ru), none, none, none, none, none, none, none, none, none, none, none, none] μ) = _
  have s1 : evSs (cfN P (d + 14)) [(.asg (.tp [(.nm 2), (.nm 3), (.nm 4)]) (.var 1)), (.oasg 5 (.lst []))] [some (lw w), some (cs L r ru), none, none, none, none, none, none, none, none, none, none, none, none] μ = .ok .nx [some (lw w), some (cs L r ru), some (nat L), some (nat r), some (.str ru), some (.own (.lv [])), none, none, none, none, none, none, none, none] μ := by
    simp [nxO, setO, setSlot, cs, SZ]
  show outR (evSs (cfN P (d + 14)) ([_, _] ++ (_ :: _)) _ μ) = _
  rw [evSs_app, s1, seq_nx, st_cons, st, seq_nx, st_cons]
  -- whether anything more may go
  have s4 : evS (cfN P (d + 14)) (.asg (.nm 8) (.or (.cmp .eq (.idx (.idx (.var 0) (.con (.int (0)))) (.con (.int (3)))) (.con (.str "sure"))) (.and (.cmp .eq (.var 4) (.con (.str "bare"))) (.cmp .gt (.idx (.idx (.var 0) (.con (.int (0)))) (.con (.int (2)))) (.con (.int (0))))))) [some (lw w), some (cs L r ru), some (nat L), some (nat r), some (.str ru), some (.own (.lv [pairV L r ru w (.greet false), pairV L r ru w (.greet true)])), some (.int 1), some (.tup (putRow w.g1 (e2 w.l1.m w.l1.p))), none, none, none, none, none, none] μ =
      .ok .nx [some (lw w), some (cs L r ru), some (nat L), some (nat r), some (.str ru), some (.own (.lv [pairV L r ru w (.greet false), pairV L r ru w (.greet true)])), some (.int 1), some (.tup (putRow w.g1 (e2 w.l1.m w.l1.p))), some (.bl (w.l0.b || (rIs ru "bare" && decide (0 < w.l0.p)))), none, none, none, none, none] μ := by
    cases hb : w.l0.b <;> cases hc : rIs ru "bare" <;> simp [hr, so_bare, so_sure, so_new, hb, hc, nxO]
  rw [s4, seq_nx, st_cons]
  have lc : ∀ (b : Bool) (v : PV), (cond b [v] []).length ≤ 1 := by intro b v; cases b <;> simp
  rw [iffapp_at (acc := [pairV L r ru w (.greet false), pairV L r ru w (.greet true)]) (b := takesB L ru w) (v := pairV L r ru w .take) rfl (by
      unfold takesB
      generalize (w.l0.b || (rIs ru "bare" && decide (0 < w.l0.p))) = mb
      cases mb
      · simp
      · cases htk : takeT L w.o with
        | none => rw [htk] at gt; simp [gt, oN]
        | some q => rw [htk] at gt; simp [gt, oN]) (fun hb => by
      have z : (takeT L w.o).isSome = true := by unfold takesB at hb; simp only [Bool.and_eq_true] at hb; exact hb.2
      have g := ltaken_eq (d + 1) h (by omega) hr z μ
      simp [g, SZ]
      rfl) (by simp), seq_nx]
  simp only [List.set]
  rw [st_cons]
  have s6 : ∀ x5 x6 x7 x8, evS (cfN P (d + 14)) (.asg (.tp [(.nm 9), (.tp [(.nm 10), (.nm 11), (.nm 12), (.nm 13)])]) (.tup [(.call 114 [(.idx (.var 0) (.con (.int (2))))]), (.idx (.var 0) (.con (.int (2))))])) [some (lw w), some (cs L r ru), some (nat L), some (nat r), some (.str ru), x5, x6, x7, x8, none, none, none, none, none] μ =
      .ok .nx [some (lw w), some (cs L r ru), some (nat L), some (nat r), some (.str ru), x5, x6, x7, x8, some (nats (underT w.o)), some (nat w.o.k), some (nat w.o.n), some (nats w.o.lost), some (nat w.o.lim)] μ := by
    intro x5 x6 x7 x8
    have z : evE (cfN P (d + 14)) (.tup [(.call 114 [(.idx (.var 0) (.con (.int (2))))]), (.idx (.var 0) (.con (.int (2))))]) [some (lw w), some (cs L r ru), some (nat L), some (nat r), some (.str ru), x5, x6, x7, x8, none, none, none, none, none] μ = .ok (.tup [nats (underT w.o), eBox w.o]) μ := by
      simp [gu, dn, SZ]
    rw [st_asg, z]
    simp [nxO, eb]
  rw [s6, seq_nx, st_cons]
  rw [iffapp_at (acc := [pairV L r ru w (.greet false), pairV L r ru w (.greet true)] ++ cond (takesB L ru w) [pairV L r ru w .take] []) (b := !(underT w.o).isEmpty) (v := pairV L r ru w .lose) rfl (by
      have e : nats (underT w.o) = .tup ((underT w.o).map nat) := rfl
      simp [pn, e, un]) (fun hb => by
      have so := fun v0 v1 v2 v3 v4 v5 v6 v7 v8 v10 v11 v13 => ev_deeper (mapAt (F_lso μ v0 v1 v2 v3 v4 v5 v6 v7 v8 v10 v11 v13) (os_mem h.o)) (fun z => by cases z) (n := d + 14) (by omega)
      simp [so, -ev_blt, SZ, ch]
      rfl) (by have := lc (takesB L ru w) (pairV L r ru w .take); simp only [List.length_append, List.length_cons, List.length_nil]; omega), seq_nx]
  simp only [List.set]
  rw [st_cons, iffapp_at (acc := [pairV L r ru w (.greet false), pairV L r ru w (.greet true)] ++ cond (takesB L ru w) [pairV L r ru w .take] [] ++ cond (!(underT w.o).isEmpty) [pairV L r ru w .lose] []) (b := w.l1.b) (v := pairV L r ru w .room) rfl (by simp) (fun hb => by simp [gr, SZ]; rfl) (by
      have := lc (takesB L ru w) (pairV L r ru w .take)
      have := lc (!(underT w.o).isEmpty) (pairV L r ru w .lose)
      simp only [List.length_append, List.length_cons, List.length_nil]; omega), seq_nx]
  simp only [List.set]
  rw [st_cons, st_retO]
  show Res.ok (PV.own (.lv _)) μ = _
  unfold sendD
  simp only [List.map_append, cond_map]
  rfl
end M76
end
section
set_option Elab.async false
set_option linter.all false
set_option maxRecDepth 100000
set_option maxHeartbeats 4000000
/-! the small worlds, part o: the law's deeds, all. -/
namespace M76
open PySem OL
theorem F_lmem (μ : Sto) : isL.map (fun p => cmpOp .mem (nat p.2.2.rd) (nats p.2.2.held) μ) = isL.map fun p => some (p.2.2.held.contains p.2.2.rd) := by kernel_rfl
@[simp] theorem pl_nats (l : List Nat) : OL.plain (nats l) = some (nats l) := rfl
@[simp] theorem pl_oN (x : Option Nat) : OL.plain (oN x) = some (oN x) := by cases x <;> rfl
/-- a letter as the law walks it -/
def eLl (q : Lt) : PV := .tup [.str (w2 q.1), q.2]
theorem isNon_lw (w : W) : isNon (lw w) = false := rfl
theorem hearO_non (L : Nat) (ru : Str) (s : Bool) (q : Lt) (w : W) : isNon (hearO L ru s q w) = (heardM ru (W.lk w s).m (W.lk w s).p (W.lk w s).b (ltA q.2) (ltC q.2)).isNone := by
  unfold hearO
  cases heardM ru (W.lk w s).m (W.lk w s).p (W.lk w s).b (ltA q.2) (ltC q.2) <;> rfl
theorem hearO_pl (L : Nat) (ru : Str) (s : Bool) (q : Lt) (w : W) : OL.plain (hearO L ru s q w) = some (hearO L ru s q w) ∧ disown (hearO L ru s q w) = hearO L ru s q w := by
  unfold hearO
  split <;> exact ⟨rfl, rfl⟩
theorem hearD_len {L r k : Nat} {w : W} (h : WOk L r k w) (ru : Str) (b0 b1 : Int) (s : Bool) : (hearD ru b0 b1 w s).length ≤ 2 * k := by
  rw [← List.length_map (f := dV), hearD_map]
  have z := flat_cond (c := fun p : Lt × Nat => hearB ru b0 b1 w s p.1) (f := fun p => dHear s p.2) (hearL w s).zipIdx
  rw [List.length_zipIdx] at z
  have := hearL_len h s
  unfold hearP
  omega
theorem lside_eq (d : Nat) {L r k : Nat} {w : W} (h : WOk L r k w) (hk : k ≤ 98) {ru : Str} (hr : SOk ru) (b0 b1 : Int) (s : Bool) (μ : Sto) (acc : List PV) (ha : acc.length ≤ 1000) (x5 x6 x7 x8 x9 x14 : Option PV) :
    ∃ y5 y6 y7 y8 y9, evSs (cfN P (d + 14)) [(.asg (.nm 5) (.bin .add (.comp (.tup [(.con (.str "greet")), (.var 14)]) (.nm 14) (.idx (.var 0) (.bin .sub (.con (.int (5))) (.var 4))) none [14]) (.comp (.tup [(.con (.str "more")), (.var 14)]) (.nm 14) (.idx (.var 0) (.bin .sub (.con (.int (7))) (.var 4))) none [14]))), (.forr (.tp [(.nm 6), (.tp [(.nm 7), (.nm 8)])]) (.enu (.var 5) none) [(.asg (.nm 9) (.call 119 [(.var 0), (.var 4), (.var 8), (.var 7), (.var 2)])), (.iff (.and (.cmp .isn (.var 9) (.con (.non))) (.call 107 [(.idx (.var 0) (.var 4)), (.var 1)])) [(.asg (.nm 9) (.call 118 [(.var 0), (.var 4), (.idx (.var 8) (.con (.int (0)))), (.var 2)]))] []), (.iff (.cmp .nisn (.var 9) (.con (.non))) [(.oap 3 (.tup [(.tup [(.con (.str "hear")), (.var 4), (.var 6)]), (.var 9)]))] [])])]
      [some (lw w), some (.tup [.int b0, .int b1]), some (cs L r ru), some (.own (.lv acc)), some (.int (sd s)), x5, x6, x7, x8, x9, none, none, none, none, x14] μ =
      .ok .nx [some (lw w), some (.tup [.int b0, .int b1]), some (cs L r ru), some (.own (.lv (acc ++ (hearD ru b0 b1 w s).map (pairV L r ru w)))), some (.int (sd s)), y5, y6, y7, y8, y9, none, none, none, none, x14] μ := by
  have hc : ∀ (x : Str) (e : E) (l : List PV), l.length ≤ 1000 → R0 l → evE (cfN P (d + 14)) e [some (lw w), some (.tup [.int b0, .int b1]), some (cs L r ru), some (.own (.lv acc)), some (.int (sd s)), x5, x6, x7, x8, x9, none, none, none, none, x14] μ = .ok (.tup l) μ → evE (cfN P (d + 14)) (.comp (.tup [(.con (.str x)), (.var 14)]) (.nm 14) e none [14]) [some (lw w), some (.tup [.int b0, .int b1]), some (cs L r ru), some (.own (.lv acc)), some (.int (sd s)), x5, x6, x7, x8, x9, none, none, none, none, x14] μ = .ok (.lv (l.map fun v => .tup [.str x, v])) μ := by
    intro x e l hl h0 he
    refine comp_map (it := fun v => v) he (by simpa using wk_tup μ l) (fun v hv => ?_) (by unfold SZ; omega)
    obtain ⟨a, c, t, rfl, ht⟩ := h0 v hv
    exact ⟨[some (lw w), some (.tup [.int b0, .int b1]), some (cs L r ru), some (.own (.lv acc)), some (.int (sd s)), x5, x6, x7, x8, x9, none, none, none, none, some (.tup (.int a :: .int c :: t))], by simp [wipeE], by simp [SZ]⟩
  have hl := hearL_len h s
  have z0 := h.n0
  have z1 := h.n1
  have z6 := h.n6
  have z7 := h.n7
  have s1 : evS (cfN P (d + 14)) (.asg (.nm 5) (.bin .add (.comp (.tup [(.con (.str "greet")), (.var 14)]) (.nm 14) (.idx (.var 0) (.bin .sub (.con (.int (5))) (.var 4))) none [14]) (.comp (.tup [(.con (.str "more")), (.var 14)]) (.nm 14) (.idx (.var 0) (.bin .sub (.con (.int (7))) (.var 4))) none [14]))) [some (lw w), some (.tup [.int b0, .int b1]), some (cs L r ru), some (.own (.lv acc)), some (.int (sd s)), x5, x6, x7, x8, x9, none, none, none, none, x14] μ =
      .ok .nx [some (lw w), some (.tup [.int b0, .int b1]), some (cs L r ru), some (.own (.lv acc)), some (.int (sd s)), some (.lv ((hearL w s).map eLl)), x6, x7, x8, x9, none, none, none, none, x14] μ := by
    rw [st_asg, ev_bin]
    cases s with
    | true =>
      rw [hc _ _ w.g0 (by omega) h.g0.r0 (by simp [sd]), Res.bind_ok, hc _ _ w.s6 (by omega) h.s6.r0 (by simp [sd])]
      have hz : w.g0.length + w.s6.length ≤ 16777216 := by omega
      simp [add_lv, newL, SZ, hearL, eLl, w2, hz, Function.comp_def, nxO]
    | false =>
      rw [hc _ _ w.g1 (by omega) h.g1.r0 (by simp [sd]), Res.bind_ok, hc _ _ w.s7 (by omega) h.s7.r0 (by simp [sd])]
      have hz : w.g1.length + w.s7.length ≤ 16777216 := by omega
      simp [add_lv, newL, SZ, hearL, eLl, w2, hz, Function.comp_def, nxO]
  have hw : Wk μ (.enu (.lv ((hearL w s).map eLl)) 0) ((hearL w s).zipIdx.map fun p : Lt × Nat => .tup [nat p.2, eLl p.1]) := by
    have z := wk_enuL μ ((hearL w s).map eLl)
    have e : enumd ((hearL w s).map eLl) 0 = (hearL w s).zipIdx.map fun p : Lt × Nat => .tup [nat p.2, eLl p.1] := by
      unfold enumd
      rw [List.zipIdx_map, List.map_map]
      simp [Function.comp_def, nat]
    rwa [e] at z
  rw [st_cons, s1, seq_nx, st_cons]
  rw [forr_at (v := .enu (.lv ((hearL w s).map eLl)) 0) (by simp) hw]
  obtain ⟨env', h1, y6, y7, y8, y9, rfl⟩ := forL_app (asn := assT (.tp [(.nm 6), (.tp [(.nm 7), (.nm 8)])])) (b := evSs (cfN P (d + 14)) [(.asg (.nm 9) (.call 119 [(.var 0), (.var 4), (.var 8), (.var 7), (.var 2)])), (.iff (.and (.cmp .isn (.var 9) (.con (.non))) (.call 107 [(.idx (.var 0) (.var 4)), (.var 1)])) [(.asg (.nm 9) (.call 118 [(.var 0), (.var 4), (.idx (.var 8) (.con (.int (0)))), (.var 2)]))] []), (.iff (.cmp .nisn (.var 9) (.con (.non))) [(.oap 3 (.tup [(.tup [(.con (.str "hear")), (.var 4), (.var 6)]), (.var 9)]))] [])]) (μ := μ)
    (it := fun p : Lt × Nat => .tup [nat p.2, eLl p.1]) (g := fun p => cond (hearB ru b0 b1 w s p.1) [pairV L r ru w (.hear s p.2 p.1)] [])
    (Inv := fun acc env => ∃ x6 x7 x8 x9, env = [some (lw w), some (.tup [.int b0, .int b1]), some (cs L r ru), some (.own (.lv acc)), some (.int (sd s)), some (.lv ((hearL w s).map eLl)), x6, x7, x8, x9, none, none, none, none, x14]) (l := (hearL w s).zipIdx)
    (fun p hp acc env hI hz => by
      obtain ⟨x6, x7, x8, x9, rfl⟩ := hI
      obtain ⟨q, n⟩ := p
      have hm : q ∈ hearL w s := List.mem_of_getElem? (zip_mem hp)
      obtain ⟨a, c, t, hv, ht⟩ := hearL_r0 h s q.2 (List.mem_map.mpr ⟨_, hm, rfl⟩)
      have pq : OL.plain q.2 = some q.2 := by rw [hv]; rfl
      have i0 : idxM μ q.2 (.int 0) = some (.int a) := by rw [hv]; exact atI_0 _ _
      have ea : ltA q.2 = a := by rw [hv]; rfl
      have hq : acc.length < 16777216 := by simp only [SZ] at hz; omega
      have g1 := lheard_eq d h hk hr s q hm μ
      have g2 : (cfN P (d + 14)).call 107 [lkv (W.lk w s) s, .tup [.int b0, .int b1]] μ = _ := law_left_eq (d + 13) (μ := μ) s (W.lk w s).m (W.lk w s).p b0 b1 (W.lk w s).b
      have g3 := lnew_eq (d + 12) (L := L) (r := r) w hr s a μ
      obtain ⟨o1, o2⟩ := hearO_pl L ru s q w
      have o3 := hearO_non L ru s q w
      have t1 : evS (cfN P (d + 14)) (.asg (.nm 9) (.call 119 [(.var 0), (.var 4), (.var 8), (.var 7), (.var 2)])) [some (lw w), some (.tup [.int b0, .int b1]), some (cs L r ru), some (.own (.lv acc)), some (.int (sd s)), some (.lv ((hearL w s).map eLl)), some (nat n), some (.str (w2 q.1)), some q.2, x9, none, none, none, none, x14] μ = .ok .nx [some (lw w), some (.tup [.int b0, .int b1]), some (cs L r ru), some (.own (.lv acc)), some (.int (sd s)), some (.lv ((hearL w s).map eLl)), some (nat n), some (.str (w2 q.1)), some q.2, some (hearO L ru s q w), none, none, none, none, x14] μ := by
        simp [pq, g1, o2, nxO]
      have t2 : evS (cfN P (d + 14)) (.iff (.and (.cmp .isn (.var 9) (.con (.non))) (.call 107 [(.idx (.var 0) (.var 4)), (.var 1)])) [(.asg (.nm 9) (.call 118 [(.var 0), (.var 4), (.idx (.var 8) (.con (.int (0)))), (.var 2)]))] []) [some (lw w), some (.tup [.int b0, .int b1]), some (cs L r ru), some (.own (.lv acc)), some (.int (sd s)), some (.lv ((hearL w s).map eLl)), some (nat n), some (.str (w2 q.1)), some q.2, some (hearO L ru s q w), none, none, none, none, x14] μ = .ok .nx [some (lw w), some (.tup [.int b0, .int b1]), some (cs L r ru), some (.own (.lv acc)), some (.int (sd s)), some (.lv ((hearL w s).map eLl)), some (nat n), some (.str (w2 q.1)), some q.2, some (if hearB ru b0 b1 w s q = true then lw (hearW L ru s q w) else .non), none, none, none, none, x14] μ := by
        have ho : hearO L ru s q w = if (heardM ru (W.lk w s).m (W.lk w s).p (W.lk w s).b (ltA q.2) (ltC q.2)).isSome = true then lw (hearW L ru s q w) else .non := rfl
        have hh : hearW L ru s q w = match heardM ru (W.lk w s).m (W.lk w s).p (W.lk w s).b (ltA q.2) (ltC q.2) with
          | none => newW L ru s (ltA q.2) w
          | some (m, p, b) => cond (q.1 || !takB ru m p b q.2) (linkW s m p b w) (letterW s q.2 (linkW s m p b w)) := rfl
        have hB : hearB ru b0 b1 w s q = ((heardM ru (W.lk w s).m (W.lk w s).p (W.lk w s).b (ltA q.2) (ltC q.2)).isSome || leftM s (W.lk w s).m b0 b1) := rfl
        rw [hB]
        cases e : heardM ru (W.lk w s).m (W.lk w s).p (W.lk w s).b (ltA q.2) (ltC q.2) with
        | none =>
          rw [e] at ho hh
          simp only [Option.isSome_none, Bool.false_eq_true, if_false] at ho hh
          rw [ea] at hh
          rw [ho, hh]
          cases hlf : leftM s (W.lk w s).m b0 b1 <;> simp [g2, hlf, pq, i0, g3, nxO]
        | some y =>
          rw [e] at ho
          simp only [Option.isSome_some, if_true] at ho
          rw [ho]
          simp [isNon_lw]
      refine ⟨[some (lw w), some (.tup [.int b0, .int b1]), some (cs L r ru), some (.own (.lv acc)), some (.int (sd s)), some (.lv ((hearL w s).map eLl)), some (nat n), some (.str (w2 q.1)), some q.2, x9, none, none, none, none, x14], _, by simp [eLl], by rw [st_cons, t1, seq_nx, st_cons, t2, seq_nx, st_cons, iffapp_at (acc := acc) (b := hearB ru b0 b1 w s q) (v := pairV L r ru w (.hear s n q)) rfl (by cases hearB ru b0 b1 w s q <;> simp [isNon_lw]) (fun hb => by rw [hb]; simp [SZ]; rfl) hq]; rfl, _, _, _, _, rfl⟩)
    (acc := acc) ⟨x6, x7, x8, x9, rfl⟩ (by
      have z := flat_cond (c := fun p : Lt × Nat => hearB ru b0 b1 w s p.1) (f := fun p => pairV L r ru w (.hear s p.2 p.1)) (hearL w s).zipIdx
      rw [List.length_zipIdx] at z
      simp only [SZ]
      omega)
  refine ⟨some (.lv ((hearL w s).map eLl)), y6, y7, y8, y9, ?_⟩
  rw [h1, seq_nx, st_nil]
  have e : (hearD ru b0 b1 w s).map (pairV L r ru w) = (hearL w s).zipIdx.flatMap fun p => cond (hearB ru b0 b1 w s p.1) [pairV L r ru w (.hear s p.2 p.1)] [] := by
    unfold hearD
    rw [List.map_flatMap]
    congr 1
    funext p
    rw [cond_map]
    rfl
  rw [e]
end M76
end
section
set_option Elab.async false
set_option linter.all false
set_option maxRecDepth 100000
set_option maxHeartbeats 4000000
/-! the small worlds, part p: the law's deeds, together. -/
namespace M76
open PySem OL
theorem sendD_len (L : Nat) (ru : Str) (w : W) : (sendD L ru w).length ≤ 10 := by
  unfold sendD
  cases takesB L ru w <;> cases (underT w.o).isEmpty <;> cases w.l1.b <;> simp
theorem ldeeds_eq (d : Nat) {L r k : Nat} {w : W} (h : WOk L r k w) (hk : k ≤ 98) {ru : Str} (hr : SOk ru) (b0 b1 : Int) (μ : Sto) : (cfN P (d + 16)).call 121 [lw w, .tup [.int b0, .int b1], cs L r ru] μ = .ok (.own (.lv ((deedsD L ru b0 b1 w).map (pairV L r ru w)))) μ := by
  rw [call_at at_law_stream_deeds (d + 15) rfl]
  have gs := lsend_eq d h hk hr μ
  have sl := sendD_len L ru w
  have h0 := hearD_len h ru b0 b1 false
  have h1 := hearD_len h ru b0 b1 true
  have ch := fun ks vs => lchg_eq (d + 14) w ks vs μ
  have lm := mapAt (F_lmem μ) (is_mem h.i)
  have lc : ∀ (b : Bool) (v : PV), (cond b [v] []).length ≤ 1 := by intro b v; cases b <;> simp
  have s1 : evS (cfN P (d + 15)) (.oasg 3 (.calo 120 [(.var 0), (.var 2)])) [some (lw w), some (.tup [.int b0, .int b1]), some (cs L r ru), none, none, none, none, none, none, none, none, none, none, none, none] μ = .ok .nx [some (lw w), some (.tup [.int b0, .int b1]), some (cs L r ru), some (.own (.lv ((sendD L ru w).map (pairV L r ru w)))), none, none, none, none, none, none, none, none, none, none, none] μ := by
    simp [gs, setO, setSlot, nxO]
  obtain ⟨u5, u6, u7, u8, u9, e0⟩ := lside_eq (d + 1) h hk hr b0 b1 false μ ((sendD L ru w).map (pairV L r ru w)) (by rw [List.length_map]; omega) none none none none none none
  obtain ⟨y5, y6, y7, y8, y9, e1⟩ := lside_eq (d + 1) h hk hr b0 b1 true μ ((sendD L ru w).map (pairV L r ru w) ++ (hearD ru b0 b1 w false).map (pairV L r ru w)) (by rw [List.length_append, List.length_map, List.length_map]; omega) u5 u6 u7 u8 u9 none
  rw [show sd false = 0 from rfl] at e0
  rw [show sd true = 1 from rfl] at e1
  show outR (evSs (cfN P (d + 15)) (_ :: _ :: _ :: _ :: _ :: _ :: []) [some (lw w), some (.tup [.int b0, .int b1]), some (cs L r ru), none, none, none, none, none, none, none, none, none, none, none, none] μ) = _
  rw [st_cons, s1, seq_nx, st_cons, forr_at (v := .rg 0 2 1) (l := [.int 0, .int 1]) (by simp [rgOf]) (wk_rg2 μ),
    forL_step (env1 := [some (lw w), some (.tup [.int b0, .int b1]), some (cs L r ru), some (.own (.lv ((sendD L ru w).map (pairV L r ru w)))), some (.int 0), none, none, none, none, none, none, none, none, none, none]) (by simp) e0,
    forL_step (env1 := [some (lw w), some (.tup [.int b0, .int b1]), some (cs L r ru), some (.own (.lv ((sendD L ru w).map (pairV L r ru w) ++ (hearD ru b0 b1 w false).map (pairV L r ru w)))), some (.int 1), u5, u6, u7, u8, u9, none, none, none, none, none]) (by simp) e1, forL_nil, seq_nx, st_cons]
  generalize ha : (sendD L ru w).map (pairV L r ru w) ++ (hearD ru b0 b1 w false).map (pairV L r ru w) ++ (hearD ru b0 b1 w true).map (pairV L r ru w) = acc
  have hacc : acc.length ≤ 900 := by rw [← ha]; simp only [List.length_append, List.length_map]; omega
  have s3 : evS (cfN P (d + 15)) (.asg (.tp [(.nm 10), (.nm 11), (.nm 12), (.nm 13)]) (.idx (.var 0) (.con (.int (3))))) [some (lw w), some (.tup [.int b0, .int b1]), some (cs L r ru), some (.own (.lv acc)), some (.int 1), y5, y6, y7, y8, y9, none, none, none, none, none] μ = .ok .nx [some (lw w), some (.tup [.int b0, .int b1]), some (cs L r ru), some (.own (.lv acc)), some (.int 1), y5, y6, y7, y8, y9, some (nat w.i.rd), some (nats w.i.held), some (oN w.i.stop), some (nat w.i.gr), none] μ := by
    have eb : eIn w.i = .tup [nat w.i.rd, nats w.i.held, oN w.i.stop, nat w.i.gr] := rfl
    simp [eb, nxO]
  rw [s3, seq_nx, st_cons, iffapp_at (acc := acc) (b := w.i.held.contains w.i.rd) (v := pairV L r ru w .read) rfl (by simp [lm]) (fun hb => by
    have hd := (read_in h.i hb).2
    have eh : nats w.i.held = .tup (nat w.i.rd :: (w.i.held.drop 1).map nat) := by rw [hd]; rfl
    have bi : ∀ i : Int, binOp .add (nat w.i.rd) (.int i) μ = .ok (.int (w.i.rd + i)) μ := fun _ => rfl
    have et : (w.i.held.map nat).tail = (w.i.held.drop 1).map nat := by cases w.i.held <;> rfl
    simp [bi, eh, cut1, SZ, ch]
    rw [et]
    rfl) (by omega), seq_nx]
  simp only [List.set]
  have cx : ∀ (acc : List PV) (s : Bool) (x5 x6 x7 x8 x9 x10 x11 x12 x13 : Option PV), acc.length ≤ 1000 → evS (cfN P (d + 15)) (.iff (.or (.cmp .eq (.idx (.var 2) (.con (.int (2)))) (.con (.str "count"))) (.call 107 [(.idx (.var 0) (.var 4)), (.var 1)])) [(.oap 3 (.tup [(.tup [(.con (.str "crash")), (.var 4)]), (.call 118 [(.var 0), (.var 4), (.con (.int (0))), (.var 2)])]))] [])
      [some (lw w), some (.tup [.int b0, .int b1]), some (cs L r ru), some (.own (.lv acc)), some (.int (sd s)), x5, x6, x7, x8, x9, x10, x11, x12, x13, none] μ = .ok .nx [some (lw w), some (.tup [.int b0, .int b1]), some (cs L r ru), some (.own (.lv (acc ++ cond (crashB ru b0 b1 w s) [pairV L r ru w (.crash s)] []))), some (.int (sd s)), x5, x6, x7, x8, x9, x10, x11, x12, x13, none] μ := by
    intro acc s x5 x6 x7 x8 x9 x10 x11 x12 x13 ha
    have g : (cfN P (d + 15)).call 107 [lkv (W.lk w s) s, .tup [.int b0, .int b1]] μ = _ := law_left_eq (d + 14) (μ := μ) s (W.lk w s).m (W.lk w s).p b0 b1 (W.lk w s).b
    have g3 := lnew_eq (d + 13) (L := L) (r := r) w hr s 0 μ
    rw [iffapp_at (acc := acc) (b := crashB ru b0 b1 w s) (v := pairV L r ru w (.crash s)) rfl (by
      unfold crashB
      generalize leftM s (W.lk w s).m b0 b1 = lf at g ⊢
      cases hc : rIs ru "count" <;> simp [hr, so_count, hc, g]) (fun _ => by simp [SZ, g3]; rfl) (by omega)]
    rfl
  have f2 : ∀ (acc : List PV) (x5 x6 x7 x8 x9 x10 x11 x12 x13 : Option PV), acc.length ≤ 950 → evS (cfN P (d + 15)) (.forr (.nm 4) (.rng [(.con (.int (2)))]) [(.iff (.or (.cmp .eq (.idx (.var 2) (.con (.int (2)))) (.con (.str "count"))) (.call 107 [(.idx (.var 0) (.var 4)), (.var 1)])) [(.oap 3 (.tup [(.tup [(.con (.str "crash")), (.var 4)]), (.call 118 [(.var 0), (.var 4), (.con (.int (0))), (.var 2)])]))] [])])
      [some (lw w), some (.tup [.int b0, .int b1]), some (cs L r ru), some (.own (.lv acc)), some (.int 1), x5, x6, x7, x8, x9, x10, x11, x12, x13, none] μ = .ok .nx [some (lw w), some (.tup [.int b0, .int b1]), some (cs L r ru), some (.own (.lv (acc ++ cond (crashB ru b0 b1 w false) [pairV L r ru w (.crash false)] [] ++ cond (crashB ru b0 b1 w true) [pairV L r ru w (.crash true)] []))), some (.int 1), x5, x6, x7, x8, x9, x10, x11, x12, x13, none] μ := by
    intro acc x5 x6 x7 x8 x9 x10 x11 x12 x13 ha
    have c0 := cx acc false x5 x6 x7 x8 x9 x10 x11 x12 x13 (by omega)
    have c1 := cx (acc ++ cond (crashB ru b0 b1 w false) [pairV L r ru w (.crash false)] []) true x5 x6 x7 x8 x9 x10 x11 x12 x13 (by have := lc (crashB ru b0 b1 w false) (pairV L r ru w (.crash false)); rw [List.length_append]; omega)
    rw [show sd false = 0 from rfl] at c0
    rw [show sd true = 1 from rfl] at c1
    rw [forr_at (v := .rg 0 2 1) (l := [.int 0, .int 1]) (by simp [rgOf]) (wk_rg2 μ),
      forL_step (env1 := [some (lw w), some (.tup [.int b0, .int b1]), some (cs L r ru), some (.own (.lv acc)), some (.int 0), x5, x6, x7, x8, x9, x10, x11, x12, x13, none]) (by simp) (by rw [st_cons, c0, seq_nx, st_nil]),
      forL_step (env1 := [some (lw w), some (.tup [.int b0, .int b1]), some (cs L r ru), some (.own (.lv (acc ++ cond (crashB ru b0 b1 w false) [pairV L r ru w (.crash false)] []))), some (.int 1), x5, x6, x7, x8, x9, x10, x11, x12, x13, none]) (by simp) (by rw [st_cons, c1, seq_nx, st_nil]), forL_nil]
  rw [st_cons, f2 _ _ _ _ _ _ _ _ _ _ (by have := lc (w.i.held.contains w.i.rd) (pairV L r ru w .read); rw [List.length_append]; omega), seq_nx, st_cons, st_retO]
  show Res.ok (PV.own (.lv _)) μ = _
  rw [← ha]
  have en : cond (!(underT w.o).isEmpty) [Dd.lose] [] = cond (underT w.o).isEmpty [] [Dd.lose] := by cases (underT w.o).isEmpty <;> rfl
  unfold sendD deedsD
  rw [en]
  simp only [List.map_append, cond_map]
  rfl
end M76
end
section
set_option Elab.async false
set_option linter.all false
set_option maxRecDepth 100000
set_option maxHeartbeats 4000000
/-! the small worlds, part q: faults of links, by the program and by the law. -/
namespace M76
open PySem OL
theorem at_link_fault_of : P.funs[78]? = some f78 := fun_at defs_eq _ rfl
theorem at_sent_pairs : P.funs[93]? = some f93 := fun_at defs_eq _ rfl
theorem at_law_links_broken : P.funs[110]? = some f110 := fun_at defs_eq _ rfl
abbrev Pr := Int × Int
def pr2 (q : Pr) : PV := e2 q.1 q.2
def prOf (v : PV) : Pr := (ltA v, ltC v)
theorem forL_if {asn : PV → OL.Env → Option OL.Env} {b : OL.Env → Sto → Out} {x v : PV} {r : List PV} {env env1 env2 : OL.Env} {μ : Sto} {c : Bool} (h1 : asn x env = some env1) (h2 : b env1 μ = if c = true then .ok (.rt v) env2 μ else .ok .nx env2 μ) : forL asn b (x :: r) env μ = if c = true then .ok (.rt v) env2 μ else forL asn b r env2 μ := by
  rw [forL, h1]
  simp only [h2]
  cases c <;> rfl
theorem forL_if2 {asn : PV → OL.Env → Option OL.Env} {b : OL.Env → Sto → Out} {x v v' : PV} {r : List PV} {env env1 env2 : OL.Env} {μ : Sto} {c c' : Bool} (h1 : asn x env = some env1) (h2 : b env1 μ = if c = true then .ok (.rt v) env2 μ else if c' = true then .ok (.rt v') env2 μ else .ok .nx env2 μ) : forL asn b (x :: r) env μ = if c = true then .ok (.rt v) env2 μ else if c' = true then .ok (.rt v') env2 μ else forL asn b r env2 μ := by
  rw [forL, h1]
  simp only [h2]
  cases c <;> cases c' <;> rfl
theorem bools_map {α : Type} (f : α → Bool) : ∀ l : List α, boolsOf (l.map fun a => PV.bl (f a)) = some (l.map f)
  | [] => rfl
  | a :: l => by rw [List.map_cons, boolsOf, bools_map f l]; rfl
theorem bany {α : Type} (f : α → Bool) (l : List α) (μ : Sto) : bltM .any [.lv (l.map fun a => .bl (f a))] μ = .ok (.bl (l.any f)) μ := by
  show Res.opt ((boolsOf (l.map fun a => PV.bl (f a))).map fun bs => PV.bl (bs.any id)) μ = _
  rw [bools_map]
  simp
theorem ball {α : Type} (f : α → Bool) (l : List α) (μ : Sto) : bltM .all [.lv (l.map fun a => .bl (f a))] μ = .ok (.bl (l.all f)) μ := by
  show Res.opt ((boolsOf (l.map fun a => PV.bl (f a))).map fun bs => PV.bl (bs.all id)) μ = _
  rw [bools_map]
  simp
/-! ### the mirror -/
def hasF (y : List Pr) (p : Int) : Bool := y.any fun q => decide (q.1 = p)
def memP (y : List Pr) (p m : Int) : Bool := (y.map pr2).any fun v => PyData.eqv (pd v) (pd (e2 p m))
def k1 (l : Lk) (y : List Pr) : Bool := !decide (l.p = 0) && !hasF y l.p
def k2 (l : Lk) (y : List Pr) : Bool := l.b && !memP y l.p l.m
def k3 (l f : Lk) : Bool := l.b && (f.b && (decide (l.p = f.m) && decide (f.p < l.m)))
def k4 (su : List Pr) : Bool := !decide (su.map (·.1)).Nodup
def k5 (x y : List Pr) : Bool := !(x.all fun q => decide (q.2 = 0) || hasF y q.2)
def lfault (a b : Lk) (x y su : List Pr) : Nat :=
  if k1 a y = true then 1 else if k2 a y = true then 2 else if k1 b x = true then 1 else if k2 b x = true then 2 else
  if k3 a b = true then 3 else if k3 b a = true then 3 else if k4 su = true then 4 else if k5 x y = true then 5 else if k5 y x = true then 5 else 0
def fN (n : Nat) : PV := if n = 0 then .non else .int n
def prs (l : List Pr) : PV := .tup (l.map pr2)
@[simp] theorem pl_prs (l : List Pr) : OL.plain (prs l) = some (prs l) := rfl
@[simp] theorem dis_prs (l : List Pr) : disown (prs l) = prs l := rfl
theorem pr2_pus (l : List Pr) : pus 2 (l.map pr2) = true := pus_all.mpr fun v hv => by
  obtain ⟨p, _, rfl⟩ := List.mem_map.mp hv
  rfl
theorem nmemP (y : List Pr) (p m : Int) (μ : Sto) : cmpOp .nmem (.tup [.int p, .int m]) (prs y) μ = some (!memP y p m) := by
  show (inM μ (e2 p m) (.tup (y.map pr2))).map (!·) = _
  rw [inM_tup (shT_pu (sh2 p m)) (pr2_pus y) (by decide)]
  rfl
@[simp] theorem pr2_0 (q : Pr) (μ : Sto) : idxM μ (pr2 q) (.int 0) = some (.int q.1) := rfl
@[simp] theorem pr2_1 (q : Pr) (μ : Sto) : idxM μ (pr2 q) (.int 1) = some (.int q.2) := rfl
@[simp] theorem pl_pr2 (q : Pr) : OL.plain (pr2 q) = some (pr2 q) := rfl
def lks (a b : Lk) : PV := .tup [lkv a false, lkv b true]
@[simp] theorem pl_lks (a b : Lk) : OL.plain (lks a b) = some (lks a b) := rfl
@[simp] theorem lks_0 (a b : Lk) (μ : Sto) : idxM μ (lks a b) (.int 0) = some (lkv a false) := rfl
@[simp] theorem lks_1 (a b : Lk) (μ : Sto) : idxM μ (lks a b) (.int 1) = some (lkv b true) := rfl
def snt (x y : List Pr) : PV := .tup [prs x, prs y]
@[simp] theorem pl_snt (x y : List Pr) : OL.plain (snt x y) = some (snt x y) := rfl
@[simp] theorem dis_snt (x y : List Pr) : disown (snt x y) = snt x y := rfl
@[simp] theorem snt_0 (x y : List Pr) (μ : Sto) : idxM μ (snt x y) (.int 0) = some (prs x) := rfl
@[simp] theorem snt_1 (x y : List Pr) (μ : Sto) : idxM μ (snt x y) (.int 1) = some (prs y) := rfl
@[simp] theorem lkv_cut (l : Lk) (s : Bool) : cutM (lkv l s) (some 1) none = some (.tup [.int l.m, .int l.p, .str (ph l.b)]) := rfl
/-! ### keys without doubles -/
theorem putK_len (ks : List Ky) (vs : List PV) (k : Ky) (v : PV) : (k ∈ ks ∧ (putK ks vs k v).1 = ks) ∨ (k ∉ ks ∧ (putK ks vs k v).1 = ks ++ [k]) := by
  unfold putK
  by_cases h : k ∈ ks
  · rw [if_pos (List.any_eq_true.mpr ⟨k, h, by simp⟩)]
    exact .inl ⟨h, rfl⟩
  · rw [if_neg (fun z => h (by
      obtain ⟨j, hj, e⟩ := List.any_eq_true.mp z
      rw [← of_decide_eq_true e]
      exact hj))]
    exact .inr ⟨h, rfl⟩
theorem gat_keys {f : PV → List Ky × List PV → Sto → Res (List Ky × List PV)} {μ : Sto} {it : Pr → PV} : ∀ (l : List Pr) (acc : List Ky × List PV), (∀ q ∈ l, ∀ acc : List Ky × List PV, acc.1.length < SZ → f (it q) acc μ = .ok (putK acc.1 acc.2 (.inl q.1) (.bl true)) μ) → acc.1.length + l.length < SZ →
    ∃ acc', gatL f (l.map it) acc μ = .ok acc' μ ∧ acc'.1.length ≤ acc.1.length + l.length ∧ (acc'.1.length = acc.1.length + l.length ↔ (l.map (·.1)).Nodup ∧ ∀ q ∈ l, (.inl q.1 : Ky) ∉ acc.1)
  | [], acc, _, _ => ⟨acc, rfl, by simp, by simp⟩
  | q :: l, acc, hf, h => by
    rw [List.length_cons] at h
    have e := putK_len acc.1 acc.2 (.inl q.1) (.bl true)
    have hlen : (putK acc.1 acc.2 (.inl q.1) (.bl true)).1.length ≤ acc.1.length + 1 := by
      rcases e with ⟨_, e⟩ | ⟨_, e⟩ <;> rw [e] <;> simp
    obtain ⟨acc', h1, h2, h3⟩ := gat_keys (f := f) (μ := μ) (it := it) l (putK acc.1 acc.2 (.inl q.1) (.bl true)) (fun p hp => hf p (List.mem_cons_of_mem _ hp)) (by omega)
    refine ⟨acc', ?_, by rw [List.length_cons]; omega, ?_⟩
    · rw [List.map_cons, gatL, hf q List.mem_cons_self acc (by omega)]
      exact h1
    · rcases e with ⟨hq, e⟩ | ⟨hq, e⟩
      · rw [e] at h2
        constructor
        · intro z
          rw [List.length_cons] at z
          omega
        · intro z
          exact absurd hq (z.2 q List.mem_cons_self)
      · have e2 : (putK acc.1 acc.2 (.inl q.1) (.bl true)).1.length = acc.1.length + 1 := by rw [e]; simp
        rw [e2] at h3
        rw [List.length_cons, show acc.1.length + (l.length + 1) = acc.1.length + 1 + l.length by omega, h3, e, List.map_cons, List.nodup_cons]
        constructor
        · rintro ⟨a, b⟩
          refine ⟨⟨fun z => ?_, a⟩, fun p hp => ?_⟩
          · obtain ⟨p, hp, hpe⟩ := List.mem_map.mp z
            exact b p hp (by rw [hpe]; simp)
          · rcases List.mem_cons.mp hp with rfl | hp
            · exact hq
            · exact fun z => b p hp (List.mem_append_left _ z)
        · rintro ⟨⟨a, b⟩, c⟩
          refine ⟨b, fun p hp z => ?_⟩
          rcases List.mem_append.mp z with z | z
          · exact c p (List.mem_cons_of_mem _ hp) z
          · rw [List.mem_singleton] at z
            exact a (List.mem_map.mpr ⟨p, hp, by injection z⟩)
theorem dcm_len {cf : CF} {env : OL.Env} {μ : Sto} {ke ve : E} {tg : Tg} {itE : E} {vs : List Nat} {l : List Pr} (hi : evE cf itE env μ = .ok (prs l) μ) (hl : l.length ≤ 1000)
    (hs : ∀ q ∈ l, ∃ env', assT tg (pr2 q) (wipeE env vs) = some env' ∧ evE cf ke env' μ = .ok (.int q.1) μ ∧ evE cf ve env' μ = .ok (.bl true) μ) : ∃ ks ws, evE cf (.dcm ke ve tg itE vs) env μ = .ok (.dv ks ws) μ ∧ decide ((ks.length : Int) < (l.length : Int)) = k4 l := by
  obtain ⟨acc', h1, h2, h3⟩ := gat_keys (f := fun x acc μ => (Res.opt (assT tg x (wipeE env vs)) μ).bind fun env' μ =>
          (evE cf ke env' μ).bind fun y μ => (evE cf ve env' μ).bind fun z μ => putR acc y z μ) (μ := μ) (it := pr2) l ([], []) (fun q hq acc ha => by
    obtain ⟨env', e1, e2, e3⟩ := hs q hq
    simp only [e1, Res.opt_some, Res.bind_ok, e2, e3, putR, keyOf]
    rw [if_pos ha]) (by unfold SZ; simp; omega)
  refine ⟨acc'.1, acc'.2, ?_, ?_⟩
  · rw [evE, hi, Res.bind_ok]
    have w := wk_tup μ (l.map pr2)
    unfold itR
    rw [show prs l = .tup (l.map pr2) from rfl, if_pos w.ok, Res.bind_ok, gather_at w.walks _ 0 _ μ (by have := w.len; omega), List.drop_zero, h1]
    rfl
  · simp only [List.length_nil, Nat.zero_add, List.not_mem_nil, not_false_eq_true, implies_true, and_true] at h2 h3
    unfold k4
    by_cases z : (l.map (·.1)).Nodup
    · rw [decide_eq_true z]
      have := h3.mpr z
      rw [decide_eq_false (by omega)]
      rfl
    · rw [decide_eq_false z]
      have : acc'.1.length ≠ l.length := fun y => z (h3.mp y)
      rw [decide_eq_true (by omega)]
      rfl
end M76
end
section
set_option Elab.async false
set_option linter.all false
set_option maxRecDepth 100000
set_option maxHeartbeats 4000000
/-! the small worlds, part r: the program's faults of links. -/
namespace M76
open PySem OL
def sel {α : Type} (s : Bool) (a b : α) : α := if s = true then b else a
@[simp] theorem sel_t {α : Type} (a b : α) : sel true a b = b := rfl
@[simp] theorem sel_f {α : Type} (a b : α) : sel false a b = a := rfl
theorem lks_s (a b : Lk) (s : Bool) (μ : Sto) : idxM μ (lks a b) (.int (sd s)) = some (lkv (sel s a b) s) := by cases s <;> rfl
theorem lks_n (a b : Lk) (s : Bool) (μ : Sto) : idxM μ (lks a b) (.int (1 - sd s)) = some (lkv (sel s b a) (!s)) := by cases s <;> rfl
theorem snt_s (x y : List Pr) (s : Bool) (μ : Sto) : idxM μ (snt x y) (.int (sd s)) = some (prs (sel s x y)) := by cases s <;> rfl
theorem snt_n (x y : List Pr) (s : Bool) (μ : Sto) : idxM μ (snt x y) (.int (1 - sd s)) = some (prs (sel s y x)) := by cases s <;> rfl
theorem wk_prs (μ : Sto) (l : List Pr) : Wk μ (prs l) (l.map pr2) := wk_tup μ _
theorem iff_con {cf : CF} {c : E} {v : PV} {o : Option PV} {env : OL.Env} {μ : Sto} {t : Bool} (hc : (evE cf c (o :: env) μ).bind trR = .ok t μ) : evS cf (.iff c [.ret (some (.con v))] []) (o :: env) μ = if t = true then .ok (.rt v) (o :: env) μ else .ok .nx (o :: env) μ := by
  rw [st_iff, hc]
  cases t <;> simp
theorem seq_if {t : Bool} {v : PV} {env : OL.Env} {μ : Sto} {r : Out} {f : OL.Env → Sto → Out} : (if t = true then Out.ok (.rt v) env μ else r).seq f = if t = true then .ok (.rt v) env μ else r.seq f := by cases t <;> rfl
/-- a comprehension of tests over pairs -/
theorem comp_tests {cf : CF} {env : OL.Env} {μ : Sto} {elt itE : E} {tg : Tg} {vs : List Nat} {l : List Pr} {f : Pr → Bool} (hi : evE cf itE env μ = .ok (prs l) μ) (hl : l.length ≤ 1000) (hs : ∀ q ∈ l, ∃ env', assT tg (pr2 q) (wipeE env vs) = some env' ∧ evE cf elt env' μ = .ok (.bl (f q)) μ) :
    evE cf (.comp elt tg itE none vs) env μ = .ok (.lv (l.map fun q => .bl (f q))) μ := comp_map (it := pr2) hi (wk_prs μ l) hs (by unfold SZ; omega)
section
variable (d : Nat) (a b : Lk) (x y su : List Pr) (hx : x.length ≤ 1000) (hy : y.length ≤ 1000) (hsu : su.length ≤ 1000) (μ : Sto)
theorem lf1 (s : Bool) (sv : Int) (l : Lk) (z : List Pr) (i1 : idxM μ (lks a b) (.int sv) = some (lkv l s)) (i2 : idxM μ (snt x y) (.int (1 - sv)) = some (prs z)) (hl : z.length ≤ 1000) (x4 x5 x6 x7 x8 x9 : Option PV) : evSs (cfN P d) [(.asg (.tp [(.nm 4), (.nm 5), (.nm 6)]) (.slc (.idx (.var 0) (.var 3)) (some (.con (.int (1)))) none)), (.iff (.and (.cmp .ne (.var 5) (.con (.int (0)))) (.not (.blt .any [(.comp (.cmp .eq (.idx (.var 9) (.con (.int (0)))) (.var 5)) (.nm 9) (.idx (.var 1) (.bin .sub (.con (.int (1))) (.var 3))) none [9])]))) [(.ret (some (.con (.int (1)))))] []), (.iff (.and (.cmp .eq (.var 6) (.con (.str "sure"))) (.cmp .nmem (.tup [(.var 5), (.var 4)]) (.idx (.var 1) (.bin .sub (.con (.int (1))) (.var 3))))) [(.ret (some (.con (.int (2)))))] [])]
      [some (lks a b), some (snt x y), some (prs su), some (.int sv), x4, x5, x6, x7, x8, x9] μ =
    if k1 l z = true then .ok (.rt (.int 1)) [some (lks a b), some (snt x y), some (prs su), some (.int sv), some (.int l.m), some (.int l.p), some (.str (ph l.b)), x7, x8, x9] μ
    else if k2 l z = true then .ok (.rt (.int 2)) [some (lks a b), some (snt x y), some (prs su), some (.int sv), some (.int l.m), some (.int l.p), some (.str (ph l.b)), x7, x8, x9] μ
    else .ok .nx [some (lks a b), some (snt x y), some (prs su), some (.int sv), some (.int l.m), some (.int l.p), some (.str (ph l.b)), x7, x8, x9] μ := by
  have s1 : evS (cfN P d) (.asg (.tp [(.nm 4), (.nm 5), (.nm 6)]) (.slc (.idx (.var 0) (.var 3)) (some (.con (.int (1)))) none)) [some (lks a b), some (snt x y), some (prs su), some (.int sv), x4, x5, x6, x7, x8, x9] μ = .ok .nx [some (lks a b), some (snt x y), some (prs su), some (.int sv), some (.int l.m), some (.int l.p), some (.str (ph l.b)), x7, x8, x9] μ := by
    simp [i1, nxO]
  have hc : evE (cfN P d) (.comp (.cmp .eq (.idx (.var 9) (.con (.int (0)))) (.var 5)) (.nm 9) (.idx (.var 1) (.bin .sub (.con (.int (1))) (.var 3))) none [9]) [some (lks a b), some (snt x y), some (prs su), some (.int sv), some (.int l.m), some (.int l.p), some (.str (ph l.b)), x7, x8, x9] μ = .ok (.lv (z.map fun q => .bl (decide (q.1 = l.p)))) μ :=
    comp_tests (by simp [i2]) hl fun q hq => ⟨[some (lks a b), some (snt x y), some (prs su), some (.int sv), some (.int l.m), some (.int l.p), some (.str (ph l.b)), x7, x8, some (pr2 q)], by simp [wipeE], by simp⟩
  have ha : evE (cfN P d) (.blt .any [(.comp (.cmp .eq (.idx (.var 9) (.con (.int (0)))) (.var 5)) (.nm 9) (.idx (.var 1) (.bin .sub (.con (.int (1))) (.var 3))) none [9])]) [some (lks a b), some (snt x y), some (prs su), some (.int sv), some (.int l.m), some (.int l.p), some (.str (ph l.b)), x7, x8, x9] μ = .ok (.bl (hasF z l.p)) μ := by
    rw [ev_blt, evs_cons, hc, Res.bind_ok, evs_nil, Res.bind_ok, Res.bind_ok, bany]
    rfl
  have nm := nmemP z l.p l.m μ
  rw [st_cons, s1, seq_nx, st_cons, iff_con (t := k1 l z) (by
    unfold k1
    by_cases h0 : l.p = 0
    · simp [h0]
    · simp [h0, ha, -ev_blt]), seq_if, seq_nx, st_cons, iff_con (t := k2 l z) (by
    unfold k2
    simp [i2, SZ, nm]), seq_if, seq_nx, st_nil]
theorem lf2 (s s' : Bool) (sv : Int) (l f : Lk) (i1 : idxM μ (lks a b) (.int sv) = some (lkv l s)) (i2 : idxM μ (lks a b) (.int (1 - sv)) = some (lkv f s')) (x4 x5 x6 x7 x8 x9 : Option PV) : evSs (cfN P d) [(.par [(7, false), (8, false)] [(.idx (.var 0) (.var 3)), (.idx (.var 0) (.bin .sub (.con (.int (1))) (.var 3)))]), (.iff (.and (.cmp .eq (.idx (.var 7) (.con (.int (3)))) (.con (.str "sure"))) (.and (.cmp .eq (.idx (.var 8) (.con (.int (3)))) (.con (.str "sure"))) (.and (.cmp .eq (.idx (.var 7) (.con (.int (2)))) (.idx (.var 8) (.con (.int (1))))) (.cmp .lt (.idx (.var 8) (.con (.int (2)))) (.idx (.var 7) (.con (.int (1)))))))) [(.ret (some (.con (.int (3)))))] [])]
      [some (lks a b), some (snt x y), some (prs su), some (.int sv), x4, x5, x6, x7, x8, x9] μ =
    if k3 l f = true then .ok (.rt (.int 3)) [some (lks a b), some (snt x y), some (prs su), some (.int sv), x4, x5, x6, some (lkv l s), some (lkv f s'), x9] μ
    else .ok .nx [some (lks a b), some (snt x y), some (prs su), some (.int sv), x4, x5, x6, some (lkv l s), some (lkv f s'), x9] μ := by
  have s1 : evS (cfN P d) (.par [(7, false), (8, false)] [(.idx (.var 0) (.var 3)), (.idx (.var 0) (.bin .sub (.con (.int (1))) (.var 3)))]) [some (lks a b), some (snt x y), some (prs su), some (.int sv), x4, x5, x6, x7, x8, x9] μ = .ok .nx [some (lks a b), some (snt x y), some (prs su), some (.int sv), x4, x5, x6, some (lkv l s), some (lkv f s'), x9] μ := by
    simp [i1, i2, setSlot, nxO]
  rw [st_cons, s1, seq_nx, st_cons, iff_con (t := k3 l f) (by
    unfold k3
    simp
    cases l.b <;> cases f.b <;> by_cases h : l.p = f.m <;> simp [h]), seq_if, seq_nx, st_nil]
theorem lf3 (sv : Int) (z u : List Pr) (i1 : idxM μ (snt x y) (.int sv) = some (prs z)) (i2 : idxM μ (snt x y) (.int (1 - sv)) = some (prs u)) (hz : z.length ≤ 1000) (hu : u.length ≤ 1000) (x4 x5 x6 x7 x8 x9 : Option PV) : evSs (cfN P d) [(.iff (.not (.blt .all [(.comp (.or (.cmp .eq (.idx (.var 9) (.con (.int (1)))) (.con (.int (0)))) (.blt .any [(.comp (.cmp .eq (.idx (.var 8) (.con (.int (0)))) (.idx (.var 9) (.con (.int (1))))) (.nm 8) (.idx (.var 1) (.bin .sub (.con (.int (1))) (.var 3))) none [8])])) (.nm 9) (.idx (.var 1) (.var 3)) none [9])])) [(.ret (some (.con (.int (5)))))] [])]
      [some (lks a b), some (snt x y), some (prs su), some (.int sv), x4, x5, x6, x7, x8, x9] μ =
    if k5 z u = true then .ok (.rt (.int 5)) [some (lks a b), some (snt x y), some (prs su), some (.int sv), x4, x5, x6, x7, x8, x9] μ
    else .ok .nx [some (lks a b), some (snt x y), some (prs su), some (.int sv), x4, x5, x6, x7, x8, x9] μ := by
  have ha : ∀ q, evE (cfN P d) (.blt .any [(.comp (.cmp .eq (.idx (.var 8) (.con (.int (0)))) (.idx (.var 9) (.con (.int (1))))) (.nm 8) (.idx (.var 1) (.bin .sub (.con (.int (1))) (.var 3))) none [8])]) [some (lks a b), some (snt x y), some (prs su), some (.int sv), x4, x5, x6, x7, x8, some (pr2 q)] μ = .ok (.bl (hasF u q.2)) μ := by
    intro q
    rw [ev_blt, evs_cons, comp_tests (l := u) (f := fun p => decide (p.1 = q.2)) (by simp [i2]) hu (fun p hp => ⟨[some (lks a b), some (snt x y), some (prs su), some (.int sv), x4, x5, x6, x7, some (pr2 p), some (pr2 q)], by simp [wipeE], by simp⟩), Res.bind_ok, evs_nil, Res.bind_ok, Res.bind_ok, bany]
    rfl
  have hb : evE (cfN P d) (.blt .all [(.comp (.or (.cmp .eq (.idx (.var 9) (.con (.int (1)))) (.con (.int (0)))) (.blt .any [(.comp (.cmp .eq (.idx (.var 8) (.con (.int (0)))) (.idx (.var 9) (.con (.int (1))))) (.nm 8) (.idx (.var 1) (.bin .sub (.con (.int (1))) (.var 3))) none [8])])) (.nm 9) (.idx (.var 1) (.var 3)) none [9])]) [some (lks a b), some (snt x y), some (prs su), some (.int sv), x4, x5, x6, x7, x8, x9] μ = .ok (.bl (z.all fun q => decide (q.2 = 0) || hasF u q.2)) μ := by
    rw [ev_blt, evs_cons, comp_tests (l := z) (f := fun q => decide (q.2 = 0) || hasF u q.2) (by simp [i1]) hz (fun q hq => ⟨[some (lks a b), some (snt x y), some (prs su), some (.int sv), x4, x5, x6, x7, x8, some (pr2 q)], by simp [wipeE], by
      by_cases h0 : q.2 = 0
      · simp [h0]
      · simp [h0, ha, -ev_blt]⟩), Res.bind_ok, evs_nil, Res.bind_ok, Res.bind_ok, ball]
  rw [st_cons, iff_con (t := k5 z u) (by
    rw [ev_not, hb]
    unfold k5
    simp), seq_if, seq_nx, st_nil]
include hx hy hsu in
theorem lfault_eq : (cfN P (d + 1)).call 78 [lks a b, snt x y, prs su] μ = .ok (fN (lfault a b x y su)) μ := by
  rw [call_at at_link_fault_of d rfl]
  have e10 := lf1 d a b x y su μ false 0 a y rfl rfl hy
  have e11 := lf1 d a b x y su μ true 1 b x rfl rfl hx
  have e20 := lf2 d a b x y su μ false true 0 a b rfl rfl
  have e21 := lf2 d a b x y su μ true false 1 b a rfl rfl
  have e30 := lf3 d a b x y su μ 0 x y rfl rfl hx hy
  have e31 := lf3 d a b x y su μ 1 y x rfl rfl hy hx
  obtain ⟨ks, ws, dk, dl⟩ := dcm_len (cf := cfN P d) (env := [some (lks a b), some (snt x y), some (prs su), some (.int 1), some (.int b.m), some (.int b.p), some (.str (ph b.b)), some (lkv b true), some (lkv a false), none]) (μ := μ) (ke := .idx (.var 9) (.con (.int (0)))) (ve := .con (.bl true)) (tg := .nm 9) (itE := .var 2) (vs := [9]) (l := su) (by simp) hsu
    (fun q hq => ⟨[some (lks a b), some (snt x y), some (prs su), some (.int 1), some (.int b.m), some (.int b.p), some (.str (ph b.b)), some (lkv b true), some (lkv a false), some (pr2 q)], by simp [wipeE], by simp, by simp⟩)
  have ln : ∀ x, bltM .len [prs x] μ = .ok (.int x.length) μ := by
    intro x
    show Res.ok (PV.int ((x.map pr2).length : Nat)) μ = _
    rw [List.length_map]
  have ld : bltM .len [.dv ks ws] μ = .ok (.int ks.length) μ := rfl
  show outR (evSs (cfN P d) (_ :: _ :: _ :: _ :: _ :: []) [some (lks a b), some (snt x y), some (prs su), none, none, none, none, none, none, none] μ) = _
  rw [st_cons, forr_at (v := .tup [.int 0, .int 1]) (l := [.int 0, .int 1]) (by simp [SZ]) (wk_tup μ _),
    forL_if2 (env1 := [some (lks a b), some (snt x y), some (prs su), some (.int 0), none, none, none, none, none, none]) (by simp) (e10 none none none none none none),
    forL_if2 (env1 := [some (lks a b), some (snt x y), some (prs su), some (.int 1), some (.int a.m), some (.int a.p), some (.str (ph a.b)), none, none, none]) (by simp) (e11 _ _ _ none none none), forL_nil]
  simp only [seq_if, seq_nx]
  rw [st_cons, forr_at (v := .tup [.int 0, .int 1]) (l := [.int 0, .int 1]) (by simp [SZ]) (wk_tup μ _),
    forL_if (env1 := [some (lks a b), some (snt x y), some (prs su), some (.int 0), some (.int b.m), some (.int b.p), some (.str (ph b.b)), none, none, none]) (by simp) (e20 _ _ _ none none none),
    forL_if (env1 := [some (lks a b), some (snt x y), some (prs su), some (.int 1), some (.int b.m), some (.int b.p), some (.str (ph b.b)), some (lkv a false), some (lkv b true), none]) (by simp) (e21 _ _ _ _ _ none), forL_nil]
  simp only [seq_if, seq_nx]
  rw [st_cons, iff_con (t := k4 su) (by
    rw [← dl]
    simp [dk, ln, ld]), seq_if, seq_nx, st_cons, forr_at (v := .tup [.int 0, .int 1]) (l := [.int 0, .int 1]) (by simp [SZ]) (wk_tup μ _),
    forL_if (env1 := [some (lks a b), some (snt x y), some (prs su), some (.int 0), some (.int b.m), some (.int b.p), some (.str (ph b.b)), some (lkv b true), some (lkv a false), none]) (by simp) (e30 _ _ _ _ _ none),
    forL_if (env1 := [some (lks a b), some (snt x y), some (prs su), some (.int 1), some (.int b.m), some (.int b.p), some (.str (ph b.b)), some (lkv b true), some (lkv a false), none]) (by simp) (e31 _ _ _ _ _ none), forL_nil]
  simp only [seq_if, seq_nx]
  rw [st_cons, st_ret _ _ _ _ _ (fun i z => by cases z), ev_con, Res.thn_ok]
  unfold lfault
  cases k1 a y <;> cases k2 a y <;> cases k1 b x <;> cases k2 b x <;> cases k3 a b <;> cases k3 b a <;> cases k4 su <;> cases k5 x y <;> cases k5 y x <;> rfl
end
end M76
end
section
set_option Elab.async false
set_option linter.all false
set_option maxRecDepth 100000
set_option maxHeartbeats 4000000
/-! the small worlds, part s: the law's faults of links. -/
namespace M76
open PySem OL
theorem asg_at {cf : CF} {i : Nat} {e : E} {env : OL.Env} {μ μ' : Sto} {v : PV} (he : evE cf e env μ = .ok v μ') (hi : i < env.length) : evS cf (.asg (.nm i) e) env μ = .ok .nx (env.set i (some v)) μ' := by
  rw [evS, he, Res.thn_ok, as_nm, if_pos hi]
  rfl
theorem ints_p {α : Type} (l : List α) (f : α → Int) : pus 1 (l.map fun q => .int (f q)) = true := pus_all.mpr fun v hv => by
  obtain ⟨p, _, rfl⟩ := List.mem_map.mp hv
  rfl
theorem memI {α : Type} (l : List α) (f : α → Int) (p : Int) (μ : Sto) : cmpOp .mem (.int p) (.lv (l.map fun q => .int (f q))) μ = some (l.any fun q => decide (f q = p)) := by
  show inM μ (.int p) (.lv (l.map fun q => .int (f q))) = _
  rw [inM_lv (n := 1) (by rw [pu]) (ints_p l f) (by decide), List.any_map]
  rfl
theorem nmemI {α : Type} (l : List α) (f : α → Int) (p : Int) (μ : Sto) : cmpOp .nmem (.int p) (.lv (l.map fun q => .int (f q))) μ = some (!(l.any fun q => decide (f q = p))) := by
  have z := memI l f p μ
  show (inM μ (.int p) (.lv (l.map fun q => .int (f q)))).map (!·) = _
  have z2 : inM μ (.int p) (.lv (l.map fun q => .int (f q))) = some (l.any fun q => decide (f q = p)) := z
  rw [z2]
  rfl
theorem ne_nilL {n : Nat} {l : List PV} (h : pus n l = true) (hn : n ≤ 60) (μ : Sto) : cmpOp .ne (.lv l) (.lv []) μ = some (!l.isEmpty) := by
  have a : pu (n + 1) (.lv l) = true := by rw [pu]; exact h
  have b : pu (n + 1) (.lv []) = true := by rw [pu, pus]
  show (eqM μ (.lv l) (.lv [])).map (!·) = _
  rw [eqM_pu a b (by omega) (by omega)]
  cases l with
  | nil => rfl
  | cons x r => rfl
theorem cutt (n : Nat) (l : List PV) (h : n ≤ l.length) : cutL l none (some (n : Int)) = l.take n := by
  unfold cutL
  have e1 : HT.sIx l.length 0 none = 0 := rfl
  have e2 : HT.sIx l.length l.length (some (n : Int)) = n := by
    unfold HT.sIx
    simp
    split <;> omega
  rw [e1, e2]
  simp
theorem filt_emp {α : Type} (p : α → Bool) : ∀ l : List α, (l.filter p).isEmpty = l.all fun q => !p q
  | [] => rfl
  | a :: l => by
    rw [List.filter_cons, List.all_cons]
    cases h : p a
    · simpa using filt_emp p l
    · simp
def k5q (u : List Pr) (q : Pr) : Bool := !(decide (q.2 = 0) || hasF u q.2)
theorem nodup_take : ∀ (l : List Int), l.Nodup ↔ ∀ i, ∀ h : i < l.length, l[i] ∉ l.take i := by
  intro l
  constructor
  · intro h i hi z
    obtain ⟨j, hj, e⟩ := List.mem_take_iff_getElem.mp z
    have hj' : j < i := by omega
    have := (List.nodup_iff_pairwise_ne.mp h)
    have := List.pairwise_iff_getElem.mp this j i (by omega) hi hj'
    exact this e
  · intro h
    rw [List.nodup_iff_pairwise_ne]
    rw [List.pairwise_iff_getElem]
    intro i j hi hj hij e
    exact h j hj (List.mem_take_iff_getElem.mpr ⟨i, by omega, e⟩)
section
variable (d : Nat) (a b : Lk) (x y su : List Pr) (hx : x.length ≤ 1000) (hy : y.length ≤ 1000) (hsu : su.length ≤ 1000) (μ : Sto)
theorem ff1 (s : Bool) (sv : Int) (l : Lk) (z : List Pr) (i1 : idxM μ (lks a b) (.int sv) = some (lkv l s)) (i2 : idxM μ (snt x y) (.int (1 - sv)) = some (prs z)) (hl : z.length ≤ 1000) (x4 x5 x6 x7 x8 x9 : Option PV) : evSs (cfN P d) [(.asg (.nm 4) (.comp (.idx (.var 8) (.con (.int (0)))) (.nm 8) (.idx (.var 1) (.bin .sub (.con (.int (1))) (.var 3))) none [8])), (.iff (.and (.cmp .ne (.idx (.idx (.var 0) (.var 3)) (.con (.int (2)))) (.con (.int (0)))) (.cmp .nmem (.idx (.idx (.var 0) (.var 3)) (.con (.int (2)))) (.var 4))) [(.ret (some (.con (.int (1)))))] []), (.iff (.and (.cmp .eq (.idx (.idx (.var 0) (.var 3)) (.con (.int (3)))) (.con (.str "sure"))) (.cmp .nmem (.tup [(.idx (.idx (.var 0) (.var 3)) (.con (.int (2)))), (.idx (.idx (.var 0) (.var 3)) (.con (.int (1))))]) (.idx (.var 1) (.bin .sub (.con (.int (1))) (.var 3))))) [(.ret (some (.con (.int (2)))))] [])]
      [some (lks a b), some (snt x y), some (prs su), some (.int sv), x4, x5, x6, x7, x8, x9] μ =
    if k1 l z = true then .ok (.rt (.int 1)) [some (lks a b), some (snt x y), some (prs su), some (.int sv), some (.lv (z.map fun q => .int q.1)), x5, x6, x7, x8, x9] μ
    else if k2 l z = true then .ok (.rt (.int 2)) [some (lks a b), some (snt x y), some (prs su), some (.int sv), some (.lv (z.map fun q => .int q.1)), x5, x6, x7, x8, x9] μ
    else .ok .nx [some (lks a b), some (snt x y), some (prs su), some (.int sv), some (.lv (z.map fun q => .int q.1)), x5, x6, x7, x8, x9] μ := by
  have hc : evE (cfN P d) (.comp (.idx (.var 8) (.con (.int (0)))) (.nm 8) (.idx (.var 1) (.bin .sub (.con (.int (1))) (.var 3))) none [8]) [some (lks a b), some (snt x y), some (prs su), some (.int sv), x4, x5, x6, x7, x8, x9] μ = .ok (.lv (z.map fun q => .int q.1)) μ :=
    comp_map (it := pr2) (by simp [i2]) (wk_prs μ z) (fun q hq => ⟨[some (lks a b), some (snt x y), some (prs su), some (.int sv), x4, x5, x6, x7, some (pr2 q), x9], by simp [wipeE], by simp⟩) (by unfold SZ; omega)
  have nm := nmemP z l.p l.m μ
  have nf := nmemI z (·.1) l.p μ
  rw [st_cons, st_asg, hc, Res.thn_ok, as_nm, if_pos (by simp), nxO_some, seq_nx]
  simp only [List.set]
  rw [st_cons, iff_con (t := k1 l z) (by
    unfold k1 hasF
    by_cases h0 : l.p = 0
    · simp [h0, i1]
    · simp [h0, i1, nf]), seq_if, seq_nx, st_cons, iff_con (t := k2 l z) (by
    unfold k2
    simp [i1, i2, SZ, nm]), seq_if, seq_nx, st_nil]
theorem ff2 (s s' : Bool) (sv : Int) (l f : Lk) (i1 : idxM μ (lks a b) (.int sv) = some (lkv l s)) (i2 : idxM μ (lks a b) (.int (1 - sv)) = some (lkv f s')) (x4 x5 x6 x7 x8 x9 : Option PV) : evSs (cfN P d) [(.par [(5, false), (6, false)] [(.idx (.var 0) (.var 3)), (.idx (.var 0) (.bin .sub (.con (.int (1))) (.var 3)))]), (.iff (.and (.cmp .eq (.idx (.var 5) (.con (.int (3)))) (.con (.str "sure"))) (.and (.cmp .eq (.idx (.var 6) (.con (.int (3)))) (.con (.str "sure"))) (.and (.cmp .eq (.idx (.var 5) (.con (.int (2)))) (.idx (.var 6) (.con (.int (1))))) (.cmp .lt (.idx (.var 6) (.con (.int (2)))) (.idx (.var 5) (.con (.int (1)))))))) [(.ret (some (.con (.int (3)))))] [])]
      [some (lks a b), some (snt x y), some (prs su), some (.int sv), x4, x5, x6, x7, x8, x9] μ =
    if k3 l f = true then .ok (.rt (.int 3)) [some (lks a b), some (snt x y), some (prs su), some (.int sv), x4, some (lkv l s), some (lkv f s'), x7, x8, x9] μ
    else .ok .nx [some (lks a b), some (snt x y), some (prs su), some (.int sv), x4, some (lkv l s), some (lkv f s'), x7, x8, x9] μ := by
  have s1 : evS (cfN P d) (.par [(5, false), (6, false)] [(.idx (.var 0) (.var 3)), (.idx (.var 0) (.bin .sub (.con (.int (1))) (.var 3)))]) [some (lks a b), some (snt x y), some (prs su), some (.int sv), x4, x5, x6, x7, x8, x9] μ = .ok .nx [some (lks a b), some (snt x y), some (prs su), some (.int sv), x4, some (lkv l s), some (lkv f s'), x7, x8, x9] μ := by
    simp [i1, i2, setSlot, nxO]
  rw [st_cons, s1, seq_nx, st_cons, iff_con (t := k3 l f) (by
    unfold k3
    simp
    cases l.b <;> cases f.b <;> by_cases h : l.p = f.m <;> simp [h]), seq_if, seq_nx, st_nil]
theorem ff3 (sv : Int) (z u : List Pr) (i1 : idxM μ (snt x y) (.int sv) = some (prs z)) (i2 : idxM μ (snt x y) (.int (1 - sv)) = some (prs u)) (hz : z.length ≤ 1000) (hu : u.length ≤ 1000) (x4 x5 x6 x7 x8 x9 : Option PV) : evSs (cfN P d) [(.asg (.nm 4) (.bin .add (.comp (.idx (.var 8) (.con (.int (0)))) (.nm 8) (.idx (.var 1) (.bin .sub (.con (.int (1))) (.var 3))) none [8]) (.lst [(.con (.int (0)))]))), (.iff (.cmp .ne (.comp (.var 8) (.nm 8) (.idx (.var 1) (.var 3)) (some (.cmp .nmem (.idx (.var 8) (.con (.int (1)))) (.var 4))) [8]) (.lst [])) [(.ret (some (.con (.int (5)))))] [])]
      [some (lks a b), some (snt x y), some (prs su), some (.int sv), x4, x5, x6, x7, x8, x9] μ =
    if k5 z u = true then .ok (.rt (.int 5)) [some (lks a b), some (snt x y), some (prs su), some (.int sv), some (.lv ((u.map Prod.fst ++ [0]).map .int)), x5, x6, x7, x8, x9] μ
    else .ok .nx [some (lks a b), some (snt x y), some (prs su), some (.int sv), some (.lv ((u.map Prod.fst ++ [0]).map .int)), x5, x6, x7, x8, x9] μ := by
  have hc : evE (cfN P d) (.comp (.idx (.var 8) (.con (.int (0)))) (.nm 8) (.idx (.var 1) (.bin .sub (.con (.int (1))) (.var 3))) none [8]) [some (lks a b), some (snt x y), some (prs su), some (.int sv), x4, x5, x6, x7, x8, x9] μ = .ok (.lv (u.map fun q => .int q.1)) μ :=
    comp_map (it := pr2) (by simp [i2]) (wk_prs μ u) (fun q hq => ⟨[some (lks a b), some (snt x y), some (prs su), some (.int sv), x4, x5, x6, x7, some (pr2 q), x9], by simp [wipeE], by simp⟩) (by unfold SZ; omega)
  have hs : evE (cfN P d) (.bin .add (.comp (.idx (.var 8) (.con (.int (0)))) (.nm 8) (.idx (.var 1) (.bin .sub (.con (.int (1))) (.var 3))) none [8]) (.lst [(.con (.int (0)))])) [some (lks a b), some (snt x y), some (prs su), some (.int sv), x4, x5, x6, x7, x8, x9] μ = .ok (.lv ((u.map Prod.fst ++ [0]).map .int)) μ := by
    rw [ev_bin, hc, Res.bind_ok]
    have : u.length + 1 ≤ 16777216 := by omega
    simp [add_lv, newL, SZ, this, Function.comp_def]
  rw [st_cons, st_asg, hs, Res.thn_ok, as_nm, if_pos (by simp), nxO_some, seq_nx]
  simp only [List.set]
  have nf : ∀ p : Int, cmpOp .nmem (.int p) (.lv ((u.map Prod.fst ++ [0]).map .int)) μ = some (!(decide (p = 0) || hasF u p)) := by
    intro p
    have z := nmemI (u.map Prod.fst ++ [0]) (fun i => i) p μ
    rw [z, List.any_append, List.any_map]
    unfold hasF
    by_cases h : p = 0 <;> simp [h, Bool.or_comm, eq_comm]
    rfl
  have hf : evE (cfN P d) (.comp (.var 8) (.nm 8) (.idx (.var 1) (.var 3)) (some (.cmp .nmem (.idx (.var 8) (.con (.int (1)))) (.var 4))) [8]) [some (lks a b), some (snt x y), some (prs su), some (.int sv), some (.lv ((u.map Prod.fst ++ [0]).map .int)), x5, x6, x7, x8, x9] μ = .ok (.lv ((z.filter (k5q u)).map pr2)) μ :=
    comp_filter (it := pr2) (by simp [i1]) (wk_prs μ z) (fun q hq => ⟨[some (lks a b), some (snt x y), some (prs su), some (.int sv), some (.lv ((u.map Prod.fst ++ [0]).map .int)), x5, x6, x7, some (pr2 q), x9], by simp [wipeE], by unfold k5q; rw [evif_some, ev_cmp]; simp [-List.map_append, nf], fun _ => by simp⟩) (by unfold SZ; omega)
  have nn := ne_nilL (pr2_pus (z.filter (k5q u))) (by decide) μ
  have e5 : (!((z.filter (k5q u)).map pr2).isEmpty) = k5 z u := by
    unfold k5
    congr 1
    rw [List.isEmpty_map, filt_emp]
    unfold k5q
    simp only [Bool.not_not]
  rw [st_cons, iff_con (t := k5 z u) (by
    rw [ev_cmp, hf, ← e5]
    simp [SZ, nn]), seq_if, seq_nx, st_nil]
end
theorem wk_rgN (μ : Sto) (n : Nat) (h : n ≤ 1000000) : Wk μ (.rg 0 n 1) ((List.range n).map nat) := by
  have hrg : rgOk 0 n 1 = true := by
    unfold rgOk
    simp
    omega
  have z := wk_rg μ hrg
  rw [show ((n : Int) - 0).toNat = n by omega] at z
  have e : (List.range n).map (fun k : Nat => PV.int (0 + k)) = (List.range n).map nat := by
    congr 1
    funext k
    simp [nat]
  rwa [e] at z
def dupB (l : List Int) (n : Nat) : Bool := match l[n]? with
  | some p => (l.take n).any fun q => decide (q = p)
  | none => false
theorem dup_nodup (l : List Int) : (!((List.range l.length).filter (dupB l)).isEmpty) = !decide l.Nodup := by
  congr 1
  rw [filt_emp, Bool.eq_iff_iff, decide_eq_true_iff, nodup_take, List.all_eq_true]
  constructor
  · intro h i hi z
    have g := h i (List.mem_range.mpr hi)
    unfold dupB at g
    rw [List.getElem?_eq_getElem hi] at g
    simp only [Bool.not_eq_true'] at g
    have : ((l.take i).any fun q => decide (q = l[i])) = true := List.any_eq_true.mpr ⟨l[i], z, by simp⟩
    rw [this] at g
    cases g
  · intro h i hi
    have hi := List.mem_range.mp hi
    unfold dupB
    rw [List.getElem?_eq_getElem hi]
    simp only [Bool.not_eq_true']
    cases e : ((l.take i).any fun q => decide (q = l[i])) with
    | false => rfl
    | true =>
      obtain ⟨q, hq, e2⟩ := List.any_eq_true.mp e
      rw [of_decide_eq_true e2] at hq
      exact absurd hq (h i hi)
section
variable (d : Nat) (a b : Lk) (x y su : List Pr) (hx : x.length ≤ 1000) (hy : y.length ≤ 1000) (hsu : su.length ≤ 1000) (μ : Sto)
include hx hy hsu in
theorem llinks_eq : (cfN P (d + 1)).call 110 [lks a b, snt x y, prs su] μ = .ok (nat (lfault a b x y su)) μ := by
  rw [call_at at_law_links_broken d rfl]
  have e10 := ff1 d a b x y su μ false 0 a y rfl rfl hy
  have e11 := ff1 d a b x y su μ true 1 b x rfl rfl hx
  have e20 := ff2 d a b x y su μ false true 0 a b rfl rfl
  have e21 := ff2 d a b x y su μ true false 1 b a rfl rfl
  have e30 := ff3 d a b x y su μ 0 x y rfl rfl hx hy
  have e31 := ff3 d a b x y su μ 1 y x rfl rfl hy hx
  have hlv : ∀ x3 x4 x5 x6 x7 x8 x9, evE (cfN P d) (.comp (.idx (.var 8) (.con (.int (0)))) (.nm 8) (.var 2) none [8]) [some (lks a b), some (snt x y), some (prs su), x3, x4, x5, x6, x7, x8, x9] μ = .ok (.lv ((su.map Prod.fst).map .int)) μ := by
    intro x3 x4 x5 x6 x7 x8 x9
    rw [List.map_map]
    exact comp_map (it := pr2) (by simp) (wk_prs μ su) (fun q hq => ⟨[some (lks a b), some (snt x y), some (prs su), x3, x4, x5, x6, x7, some (pr2 q), x9], by simp [wipeE], by simp⟩) (by unfold SZ; omega)
  have hl : (su.map Prod.fst).length ≤ 1000 := by rw [List.length_map]; exact hsu
  have hk : k4 su = !decide (su.map Prod.fst).Nodup := rfl
  generalize su.map Prod.fst = lv at *
  have hdup : ∀ x3 x4 x5 x6 x8 x9, evE (cfN P d) (.comp (.var 9) (.nm 9) (.rng [(.blt .len [(.var 7)])]) (some (.cmp .mem (.idx (.var 7) (.var 9)) (.slc (.var 7) none (some (.var 9))))) [9]) [some (lks a b), some (snt x y), some (prs su), x3, x4, x5, x6, some (.lv (lv.map .int)), x8, x9] μ = .ok (.lv (((List.range lv.length).filter (dupB lv)).map nat)) μ := by
    intro x3 x4 x5 x6 x8 x9
    have ln : bltM .len [PV.lv (lv.map .int)] μ = .ok (.int (lv.length : Nat)) μ := by
      show Res.ok (PV.int ((lv.map PV.int).length : Nat)) μ = _
      rw [List.length_map]
    refine comp_filter (it := nat) (src := .rg 0 lv.length 1) (by simp [ln, rgOf]) (wk_rgN μ _ (by omega)) (fun n hn => ⟨[some (lks a b), some (snt x y), some (prs su), x3, x4, x5, x6, some (.lv (lv.map .int)), x8, some (nat n)], by simp [wipeE, nat], ?_, fun _ => by simp⟩) (by unfold SZ; simp; omega)
    have hn := List.mem_range.mp hn
    have ai : idxM μ (.lv (lv.map .int)) (nat n) = some (.int lv[n]) := atI_nat (by rw [List.getElem?_map, List.getElem?_eq_getElem hn]; rfl)
    have ct : cutL (lv.map PV.int) none (some (n : Int)) = (lv.take n).map PV.int := by rw [cutt n _ (by simp; omega), List.map_take]
    have mm := memI (lv.take n) (fun i => i) lv[n] μ
    unfold dupB
    rw [List.getElem?_eq_getElem hn]
    simp only [nat] at ai ⊢
    simp [ai, ct, mm, -List.map_take]
  have hd2 := dup_nodup lv
  have nn := ne_nilL (nats_pus ((List.range lv.length).filter (dupB lv))) (by decide) μ
  rw [List.isEmpty_map, hd2, ← hk] at nn
  show outR (evSs (cfN P d) (_ :: _ :: _ :: _ :: _ :: _ :: []) [some (lks a b), some (snt x y), some (prs su), none, none, none, none, none, none, none] μ) = _
  rw [st_cons, forr_at (v := .rg 0 2 1) (l := [.int 0, .int 1]) (by simp [rgOf]) (wk_rg2 μ),
    forL_if2 (env1 := [some (lks a b), some (snt x y), some (prs su), some (.int 0), none, none, none, none, none, none]) (by simp) (e10 none none none none none none),
    forL_if2 (env1 := [some (lks a b), some (snt x y), some (prs su), some (.int 1), some (.lv (y.map fun q => .int q.1)), none, none, none, none, none]) (by simp) (e11 _ none none none none none), forL_nil]
  simp only [seq_if, seq_nx]
  rw [st_cons, forr_at (v := .rg 0 2 1) (l := [.int 0, .int 1]) (by simp [rgOf]) (wk_rg2 μ),
    forL_if (env1 := [some (lks a b), some (snt x y), some (prs su), some (.int 0), some (.lv (x.map fun q => .int q.1)), none, none, none, none, none]) (by simp) (e20 _ none none none none none),
    forL_if (env1 := [some (lks a b), some (snt x y), some (prs su), some (.int 1), some (.lv (x.map fun q => .int q.1)), some (lkv a false), some (lkv b true), none, none, none]) (by simp) (e21 _ _ _ none none none), forL_nil]
  simp only [seq_if, seq_nx]
  rw [st_cons, asg_at (hlv _ _ _ _ _ _ _) (by simp), seq_nx]
  simp only [List.set]
  rw [st_cons, iff_con (t := k4 su) (by
    rw [ev_cmp, hdup]
    simp [SZ, nn]), seq_if, seq_nx, st_cons, forr_at (v := .rg 0 2 1) (l := [.int 0, .int 1]) (by simp [rgOf]) (wk_rg2 μ),
    forL_if (env1 := [some (lks a b), some (snt x y), some (prs su), some (.int 0), some (.lv (x.map fun q => .int q.1)), some (lkv b true), some (lkv a false), some (.lv (lv.map .int)), none, none]) (by simp) (e30 _ _ _ _ none none),
    forL_if (env1 := [some (lks a b), some (snt x y), some (prs su), some (.int 1), some (.lv ((y.map Prod.fst ++ [0]).map .int)), some (lkv b true), some (lkv a false), some (.lv (lv.map .int)), none, none]) (by simp) (e31 _ _ _ _ none none), forL_nil]
  simp only [seq_if, seq_nx]
  rw [st_cons, st_ret _ _ _ _ _ (fun i z => by cases z), ev_con, Res.thn_ok]
  unfold lfault
  cases k1 a y <;> cases k2 a y <;> cases k1 b x <;> cases k2 b x <;> cases k3 a b <;> cases k3 b a <;> cases k4 su <;> cases k5 x y <;> cases k5 y x <;> rfl
end
end M76
end
section
set_option Elab.async false
set_option linter.all false
set_option maxRecDepth 100000
set_option maxHeartbeats 4000000
/-! the small worlds, part t: faults of worlds, by the program. -/
namespace M76
open PySem OL
theorem at_stream_fault : P.funs[95]? = some f95 := fun_at defs_eq _ rfl
theorem at_law_stream_broken : P.funs[122]? = some f122 := fun_at defs_eq _ rfl
def xs0 (w : W) : List Pr := (w.g0 ++ w.s6).map prOf
def xs1 (w : W) : List Pr := (w.g1 ++ w.s7).map prOf
def xsu (w : W) : List Pr := w.s8.map prOf
theorem r2_pr {l : List PV} (h : R2 l) : (l.map prOf).map pr2 = l := by
  rw [List.map_map]
  refine (List.map_congr_left fun v hv => ?_).trans (List.map_id l)
  obtain ⟨a, b, rfl⟩ := h v hv
  rfl
theorem comp_cut {cf : CF} {o0 : Option PV} {env : OL.Env} {μ : Sto} {i : Nat} {e : E} {l : List PV} (hi : i < env.length + 1) (h0 : i ≠ 0) (he : evE cf e (o0 :: env) μ = .ok (.tup l) μ) (hl : l.length ≤ 1000) (h : R0 l) :
    evE cf (.comp (.slc (.var i) none (some (.con (.int 2)))) (.nm i) e none [i]) (o0 :: env) μ = .ok (.lv ((l.map prOf).map pr2)) μ := by
  obtain ⟨j, rfl⟩ := Nat.exists_eq_succ_of_ne_zero h0
  rw [List.map_map]
  refine comp_map (it := fun v => v) he (by simpa using wk_tup μ l) (fun v hv => ?_) (by unfold SZ; omega)
  obtain ⟨a, c, t, rfl, ht⟩ := h v hv
  refine ⟨o0 :: (env.set j none).set j (some (.tup (.int a :: .int c :: t))), by simp [wipeE]; omega, ?_⟩
  have hj : j < env.length := by omega
  have hs : slot (env.set j (some (.tup (.int a :: .int c :: t)))) j = some (.tup (.int a :: .int c :: t)) := by
    simp [slot, hj]
  have ct := cutt 2 (.int a :: .int c :: t) (by simp)
  simp at ct
  simp [hs, ct]
  rfl
theorem add_cut {cf : CF} {o0 : Option PV} {env : OL.Env} {μ : Sto} {i : Nat} {e e' : E} {l g : List PV} (hi : i < env.length + 1) (h0 : i ≠ 0) (he : evE cf e (o0 :: env) μ = .ok (.tup l) μ) (hl : l.length ≤ 1000) (h : R0 l) (he' : evE cf e' (o0 :: env) μ = .ok (.tup g) μ) (hg : R2 g) (hgl : g.length ≤ 1000) :
    evE cf (.bin .add e' (.blt .tuple [.comp (.slc (.var i) none (some (.con (.int 2)))) (.nm i) e none [i]])) (o0 :: env) μ = .ok (prs ((g ++ l).map prOf)) μ := by
  have c := comp_cut (i := i) hi h0 he hl h
  have hz : (g.length + l.length) ≤ 16777216 := by omega
  have hz2 : l.length ≤ 16777216 := by omega
  rw [ev_bin, he', Res.bind_ok, ev_blt, evs_cons, c, Res.bind_ok, evs_nil, Res.bind_ok, Res.bind_ok, btup_lv _ _ (by simpa using hz2), Res.bind_ok, add_tup, if_pos (by simp [SZ]; omega)]
  unfold prs
  rw [List.map_append, List.map_append, r2_pr hg]
theorem pairs_eq (d : Nat) {L r k : Nat} {w : W} (h : WOk L r k w) (hk : k ≤ 100) (μ : Sto) : (cfN P (d + 1)).call 93 [pw L r w] μ = .ok (snt (xs0 w) (xs1 w)) μ := by
  rw [call_at at_sent_pairs d rfl]
  have n0 := h.n0
  have n1 := h.n1
  have n6 := h.n6
  have n7 := h.n7
  have a0 := fun o1 o2 => add_cut (cf := cfN P d) (o0 := some (pw L r w)) (env := [o1, o2]) (μ := μ) (i := 2) (e := .idx (.var 0) (.con (.int (6)))) (e' := .idx (.var 0) (.con (.int (4)))) (l := w.s6) (g := w.g0) (by simp) (by simp) (by simp) (by omega) h.s6.r0 (by simp) h.g0 (by omega)
  have a1 := fun o1 o2 => add_cut (cf := cfN P d) (o0 := some (pw L r w)) (env := [o1, o2]) (μ := μ) (i := 2) (e := .idx (.var 0) (.con (.int (7)))) (e' := .idx (.var 0) (.con (.int (5)))) (l := w.s7) (g := w.g1) (by simp) (by simp) (by simp) (by omega) h.s7.r0 (by simp) h.g1 (by omega)
  show outR (evSs (cfN P d) (_ :: _ :: []) [some (pw L r w), none, none] μ) = _
  rw [st_cons, asg_at (a0 none none) (by simp), seq_nx]
  simp only [List.set]
  rw [st_cons, st_ret _ _ _ _ _ (fun i z => by cases z)]
  simp [a1, -ev_bin, -ev_blt, SZ, -List.map_append]
  rfl
/-! ### the mirror -/
def crossB (a b : Lk) : Bool := a.b && (b.b && (decide (a.p = b.m) && decide (b.p = a.m)))
def b7 (r : Nat) (i : IS) : Bool := (i.held.any fun x => decide (i.gr ≤ x)) || decide (i.rd + r < i.gr)
def b8 (L : Nat) (o : OS) (i : IS) : Bool := decide (haveT i < min o.k L) || (decide (L < o.k) && !decide (i.stop = some L))
def b9 (o : OS) (i : IS) : Bool := decide (i.gr < o.lim)
def fedB (i : IS) : Bool := decide (0 < i.rd) || (!i.held.isEmpty || i.stop.isSome)
def b10 (w : W) : Bool := fedB w.i && !memP (xsu w) w.l1.p w.l1.m
def faultW (L r : Nat) (w : W) : Nat :=
  if lfault w.l0 w.l1 (xs0 w) (xs1 w) (xsu w) ≠ 0 then lfault w.l0 w.l1 (xs0 w) (xs1 w) (xsu w) else if t6 L w.i = true then 6 else if b7 r w.i = true then 7 else
  if crossB w.l0 w.l1 = true then (if b8 L w.o w.i = true then 8 else if b9 w.o w.i = true then 9 else if b10 w = true then 10 else 0) else if b10 w = true then 10 else 0
theorem isNon_fN (n : Nat) : isNon (fN n) = decide (n = 0) := by
  unfold fN
  by_cases h : n = 0 <;> simp [h]
theorem pl_fN (n : Nat) : OL.plain (fN n) = some (fN n) ∧ disown (fN n) = fN n := by
  unfold fN
  split <;> exact ⟨rfl, rfl⟩
theorem pw_cut (L r : Nat) (w : W) : cutM (pw L r w) none (some 2) = some (lks w.l0 w.l1) := rfl
theorem s8_prs {L r k : Nat} {w : W} (h : WOk L r k w) : PV.tup w.s8 = prs (xsu w) := by
  unfold prs xsu
  rw [r2_pr h.s8]
theorem xs_len {L r k : Nat} {w : W} (h : WOk L r k w) (hk : k ≤ 100) : (xs0 w).length ≤ 1000 ∧ (xs1 w).length ≤ 1000 ∧ (xsu w).length ≤ 1000 := by
  have n0 := h.n0
  have n1 := h.n1
  have n6 := h.n6
  have n7 := h.n7
  have n8 := h.n8
  unfold xs0 xs1 xsu
  simp only [List.length_map, List.length_append]
  omega
theorem rngs_emp : ∀ l, (rngs l).isEmpty = l.isEmpty
  | [] => rfl
  | p :: r => by
    rw [rngs]
    cases rngs r with
    | nil => rfl
    | cons q t =>
      obtain ⟨a, b⟩ := q
      simp only
      split <;> rfl
theorem held_pus (l : List (Nat × Nat)) : pus 2 (l.map fun p => .tup [nat p.1, nats (upTo p.1 p.2)]) = true := pus_all.mpr fun v hv => by
  obtain ⟨p, _, rfl⟩ := List.mem_map.mp hv
  rw [pu, pus, pus, pus]
  simp only [Bool.and_true]
  rw [show pu 1 (nat p.1) = true from rfl, Bool.true_and]
  unfold nats
  rw [pu]
  exact pus_all.mpr fun v hv => by
    obtain ⟨q, _, rfl⟩ := List.mem_map.mp hv
    rfl
theorem iff_at {cf : CF} {c : E} {a b : List S} {o : Option PV} {env : OL.Env} {μ : Sto} {t : Bool} (hc : (evE cf c (o :: env) μ).bind trR = .ok t μ) : evS cf (.iff c a b) (o :: env) μ = if t = true then evSs cf a (o :: env) μ else evSs cf b (o :: env) μ := by
  rw [st_iff, hc]
  rfl
theorem fault_eq (d : Nat) {L r k : Nat} {w : W} (h : WOk L r k w) (hk : k ≤ 98) {ru : Str} (hr : SOk ru) (μ : Sto) : (cfN P (d + 15)).call 95 [pw L r w, cs L r ru] μ = .ok (fN (faultW L r w)) μ := by
  rw [call_at at_stream_fault (d + 14) rfl]
  obtain ⟨x0, x1, x2⟩ := xs_len h (by omega)
  have gp := pairs_eq (d + 13) h (by omega) μ
  have gl := lfault_eq (d + 13) w.l0 w.l1 (xs0 w) (xs1 w) (xsu w) x0 x1 x2 μ
  have ga := agr_eq h.i μ (n := d + 14) (by omega)
  have gh := have_eq (d + 1) h.i μ
  have gu := hu_eq h.i μ (n := d + 14) (by omega)
  have g7 := fun v0 v1 v2 v3 v5 v6 v7 v8 v9 v10 => ev_deeper (mapAt (F_p7 μ v0 v1 v2 v3 v5 v6 v7 v8 v9 v10) (is_mem h.i)) (fun z => by cases z) (n := d + 14) (by omega)
  simp only at g7
  have e8 := s8_prs h
  have fl := pl_fN (lfault w.l0 w.l1 (xs0 w) (xs1 w) (xsu w))
  have j8 : idxM μ (pw L r w) (.int 8) = some (prs (xsu w)) := by rw [pw_8, e8]
  have i0 : idxM μ (eIb r w.i) (.int 0) = some (.int w.i.rd) := rfl
  have i1 : idxM μ (eIb r w.i) (.int 1) = some (.tup ((rngs w.i.held).map fun p => .tup [nat p.1, nats (upTo p.1 p.2)])) := rfl
  have i2 : idxM μ (eIb r w.i) (.int 2) = some (oN w.i.stop) := rfl
  have i4 : idxM μ (eIb r w.i) (.int 4) = some (.int w.i.gr) := rfl
  have o0 : idxM μ (eOb L w.o) (.int 0) = some (.int (min w.o.k L : Nat)) := rfl
  have o6 : idxM μ (eOb L w.o) (.int 6) = some (.int w.o.lim) := rfl
  have o4 : idxM μ (eOb L w.o) (.int 4) = some (.tup ((if L < w.o.k then [(L, L + 1)] else []).map rg2)) := by
    show some (PV.tup (if L < w.o.k then [rg2 (L, L + 1)] else [])) = _
    split <;> rfl
  have in1 := ne_nil (held_pus (rngs w.i.held)) (by decide) μ
  rw [List.isEmpty_map, rngs_emp] at in1
  have nm := nmemP (xsu w) w.l1.p w.l1.m μ
  have fl0 := isNon_fN (lfault w.l0 w.l1 (xs0 w) (xs1 w) (xsu w))
  show outR (evSs (cfN P (d + 14)) (_ :: _ :: _ :: _ :: _ :: _ :: _ :: _ :: []) [some (pw L r w), some (cs L r ru), none, none, none, none, none, none, none, none, none] μ) = _
  rw [st_cons, asg_at (v := fN (lfault w.l0 w.l1 (xs0 w) (xs1 w) (xsu w))) (μ' := μ) (by simp [gp, gl, fl.2, pw_cut, -pw_8, j8]) (by simp), seq_nx]
  simp only [List.set]
  have s2 : evS (cfN P (d + 14)) (.asg (.tp [(.nm 3), (.nm 4)]) (.tup [(.idx (.var 0) (.con (.int (2)))), (.idx (.var 0) (.con (.int (3))))])) [some (pw L r w), some (cs L r ru), some (fN (lfault w.l0 w.l1 (xs0 w) (xs1 w) (xsu w))), none, none, none, none, none, none, none, none] μ = .ok .nx [some (pw L r w), some (cs L r ru), some (fN (lfault w.l0 w.l1 (xs0 w) (xs1 w) (xsu w))), some (eOb L w.o), some (eIb r w.i), none, none, none, none, none, none] μ := by
    simp [SZ, nxO]
  rw [st_cons, s2, seq_nx, st_cons]
  unfold faultW
  generalize lfault w.l0 w.l1 (xs0 w) (xs1 w) (xsu w) = n at *
  by_cases hn : n = 0
  · rw [if_neg (by simpa using hn)]
    subst hn
    rw [iff_at (t := t6 L w.i) (by
      simp [fl.1, fl0, ga]), st_nil]
    cases ht6 : t6 L w.i with
    | true =>
      simp [fl.1, fl0]
      rfl
    | false =>
      simp only [Bool.false_eq_true, if_false, seq_nx]
      rw [st_cons, iff_con (t := b7 r w.i) (by
        rw [ev_or, g7]
        unfold b7
        have z : decide ((w.i.rd : Int) + (r : Int) < (w.i.gr : Int)) = decide (w.i.rd + r < w.i.gr) := decide_eq_decide.mpr (by omega)
        rw [← z]
        generalize (w.i.held.any fun x => decide (w.i.gr ≤ x)) = t7
        cases t7 <;> simp [i4, i0, nat]), seq_if, seq_nx]
      have s5 : evS (cfN P (d + 14)) (.par [(5, false), (6, false)] [(.idx (.var 0) (.con (.int (0)))), (.idx (.var 0) (.con (.int (1))))]) [some (pw L r w), some (cs L r ru), some (fN 0), some (eOb L w.o), some (eIb r w.i), none, none, none, none, none, none] μ = .ok .nx [some (pw L r w), some (cs L r ru), some (fN 0), some (eOb L w.o), some (eIb r w.i), some (lkv w.l0 false), some (lkv w.l1 true), none, none, none, none] μ := by
        simp [setSlot, nxO]
      rw [st_cons, s5, seq_nx]
      have hall : ∀ v5 v6 v7 v8 v9 v10, evE (cfN P (d + 14)) (.blt .all [(.comp (.cmp .ge (.call 71 [(.var 4), (.var 8)]) (.var 10)) (.tp [(.nm 8), (.nm 10)]) (.idx (.var 3) (.con (.int (4)))) none [8, 10])]) [some (pw L r w), some (cs L r ru), some (fN 0), some (eOb L w.o), some (eIb r w.i), v5, v6, v7, v8, v9, v10] μ = .ok (.bl (!(decide (L < w.o.k) && !decide (w.i.stop = some L)))) μ := by
        intro v5 v6 v7 v8 v9 v10
        have c : evE (cfN P (d + 14)) (.comp (.cmp .ge (.call 71 [(.var 4), (.var 8)]) (.var 10)) (.tp [(.nm 8), (.nm 10)]) (.idx (.var 3) (.con (.int (4)))) none [8, 10]) [some (pw L r w), some (cs L r ru), some (fN 0), some (eOb L w.o), some (eIb r w.i), v5, v6, v7, v8, v9, v10] μ = .ok (.lv ((if L < w.o.k then [(L, L + 1)] else []).map fun q => .bl (decide (q.2 ≤ huT L w.i)))) μ := by
          refine comp_map (it := rg2) (by simp [o4]) (wk_tup μ _) (fun q hq => ⟨[some (pw L r w), some (cs L r ru), some (fN 0), some (eOb L w.o), some (eIb r w.i), v5, v6, v7, some (nat q.1), v9, some (nat q.2)], by simp [wipeE, rg2], ?_⟩) (by split <;> simp [SZ])
          have e : q = (L, L + 1) := by
            split at hq
            · simpa using hq
            · cases hq
          subst e
          simp only [nat] at gu
          have z : decide ((L : Int) + 1 ≤ (huT L w.i : Int)) = decide (L + 1 ≤ huT L w.i) := decide_eq_decide.mpr (by omega)
          rw [← z]
          simp [gu, nat]
        rw [ev_blt, evs_cons, c, Res.bind_ok, evs_nil, Res.bind_ok, Res.bind_ok, ball]
        congr 2
        unfold huT
        by_cases hL : L < w.o.k <;> by_cases hs : w.i.stop = some L <;> simp [hL, hs]
      have s6 : evS (cfN P (d + 14)) (.iff (.and (.cmp .eq (.idx (.var 5) (.con (.int (3)))) (.con (.str "sure"))) (.and (.cmp .eq (.idx (.var 6) (.con (.int (3)))) (.con (.str "sure"))) (.and (.cmp .eq (.idx (.var 5) (.con (.int (2)))) (.idx (.var 6) (.con (.int (1))))) (.cmp .eq (.idx (.var 6) (.con (.int (2)))) (.idx (.var 5) (.con (.int (1)))))))) [(.iff (.or (.cmp .gt (.idx (.var 3) (.con (.int (0)))) (.call 21 [(.var 4)])) (.not (.blt .all [(.comp (.cmp .ge (.call 71 [(.var 4), (.var 8)]) (.var 10)) (.tp [(.nm 8), (.nm 10)]) (.idx (.var 3) (.con (.int (4)))) none [8, 10])]))) [(.ret (some (.con (.int (8)))))] []), (.iff (.cmp .gt (.idx (.var 3) (.con (.int (6)))) (.idx (.var 4) (.con (.int (4))))) [(.ret (some (.con (.int (9)))))] [])] []) [some (pw L r w), some (cs L r ru), some (fN 0), some (eOb L w.o), some (eIb r w.i), some (lkv w.l0 false), some (lkv w.l1 true), none, none, none, none] μ =
          if crossB w.l0 w.l1 = true then (if b8 L w.o w.i = true then .ok (.rt (.int 8)) [some (pw L r w), some (cs L r ru), some (fN 0), some (eOb L w.o), some (eIb r w.i), some (lkv w.l0 false), some (lkv w.l1 true), none, none, none, none] μ else if b9 w.o w.i = true then .ok (.rt (.int 9)) [some (pw L r w), some (cs L r ru), some (fN 0), some (eOb L w.o), some (eIb r w.i), some (lkv w.l0 false), some (lkv w.l1 true), none, none, none, none] μ else .ok .nx [some (pw L r w), some (cs L r ru), some (fN 0), some (eOb L w.o), some (eIb r w.i), some (lkv w.l0 false), some (lkv w.l1 true), none, none, none, none] μ) else .ok .nx [some (pw L r w), some (cs L r ru), some (fN 0), some (eOb L w.o), some (eIb r w.i), some (lkv w.l0 false), some (lkv w.l1 true), none, none, none, none] μ := by
        rw [iff_at (t := crossB w.l0 w.l1) (by
          unfold crossB
          simp
          cases w.l0.b <;> cases w.l1.b <;> by_cases h1 : w.l0.p = w.l1.m <;> simp [h1])]
        rw [st_cons, iff_con (t := b8 L w.o w.i) (by
          rw [ev_or]
          unfold b8
          have z : decide ((haveT w.i : Int) < ((min w.o.k L : Nat) : Int)) = decide (haveT w.i < min w.o.k L) := decide_eq_decide.mpr (by omega)
          rw [← z]
          simp only [nat] at gh
          generalize (decide (L < w.o.k) && !decide (w.i.stop = some L)) = tt at hall ⊢
          by_cases hh : (haveT w.i : Int) < ((min w.o.k L : Nat) : Int)
          · simp [o0, gh, hh]
          · simp [o0, gh, hh, hall, -ev_blt]), seq_if, seq_nx, st_cons, iff_con (t := b9 w.o w.i) (by
          have z : decide ((w.i.gr : Int) < (w.o.lim : Int)) = b9 w.o w.i := decide_eq_decide.mpr (by omega)
          rw [← z]
          simp [o6, i4]), seq_if, seq_nx, st_nil]
      have s7 : evS (cfN P (d + 14)) (.asg (.nm 7) (.or (.cmp .gt (.idx (.var 4) (.con (.int (0)))) (.con (.int (0)))) (.or (.cmp .ne (.idx (.var 4) (.con (.int (1)))) (.tup [])) (.cmp .nisn (.idx (.var 4) (.con (.int (2)))) (.con (.non)))))) [some (pw L r w), some (cs L r ru), some (fN 0), some (eOb L w.o), some (eIb r w.i), some (lkv w.l0 false), some (lkv w.l1 true), none, none, none, none] μ = .ok .nx [some (pw L r w), some (cs L r ru), some (fN 0), some (eOb L w.o), some (eIb r w.i), some (lkv w.l0 false), some (lkv w.l1 true), some (.bl (fedB w.i)), none, none, none] μ := by
        have z : decide ((0 : Int) < (w.i.rd : Int)) = decide (0 < w.i.rd) := decide_eq_decide.mpr (by omega)
        have nn : isNon (oN w.i.stop) = !w.i.stop.isSome := by cases w.i.stop <;> rfl
        unfold fedB
        rw [← z]
        by_cases h0 : (0 : Int) < (w.i.rd : Int)
        · have h0' : 0 < w.i.rd := by omega
          simp [i0, h0', nxO]
        · have h0' : ¬ 0 < w.i.rd := by omega
          cases hh : w.i.held.isEmpty <;> rw [hh] at in1 <;> simp [i0, i1, i2, h0', in1, nn, SZ, nxO]
      have s8 : evS (cfN P (d + 14)) (.ret (some (.ife (.and (.var 7) (.cmp .nmem (.tup [(.idx (.var 6) (.con (.int (2)))), (.idx (.var 6) (.con (.int (1))))]) (.idx (.var 0) (.con (.int (8)))))) (.con (.int (10))) (.con (.non))))) [some (pw L r w), some (cs L r ru), some (fN 0), some (eOb L w.o), some (eIb r w.i), some (lkv w.l0 false), some (lkv w.l1 true), some (.bl (fedB w.i)), none, none, none] μ = .ok (.rt (if b10 w = true then .int 10 else .non)) [some (pw L r w), some (cs L r ru), some (fN 0), some (eOb L w.o), some (eIb r w.i), some (lkv w.l0 false), some (lkv w.l1 true), some (.bl (fedB w.i)), none, none, none] μ := by
        unfold b10
        generalize fedB w.i = fb
        cases fb
        · simp
        · cases hm : memP (xsu w) w.l1.p w.l1.m <;> rw [hm] at nm <;> simp [-pw_8, j8, nm, SZ]
      rw [st_cons, s6]
      cases b7 r w.i <;> cases crossB w.l0 w.l1 <;> cases b8 L w.o w.i <;> cases b9 w.o w.i <;> simp only [Bool.false_eq_true, if_false, if_true, seq_nx, Out.seq_rt, outR_rt] <;> (try rfl) <;> rw [st_cons, s7, seq_nx, st_cons, s8] <;> cases b10 w <;> rfl
  · rw [if_pos hn]
    rw [iff_at (t := true) (by simp [fl.1, fl0, hn])]
    simp [fl.1, fl0, hn]
end M76
end
section
set_option Elab.async false
set_option linter.all false
set_option maxRecDepth 100000
set_option maxHeartbeats 4000000
/-! the small worlds, part u: faults of worlds, by the law. -/
namespace M76
open PySem OL
theorem evSs_cons (cf : CF) (s : S) (r : List S) (env : OL.Env) (μ : Sto) : evSs cf (s :: r) env μ = (evS cf s env μ).seq (evSs cf r) := by rw [evSs]
theorem F_lne (μ : Sto) : isL.map (fun p => cmpOp .ne (oN p.2.2.stop) (nat p.1) μ) = isL.map fun p => some (!decide (p.2.2.stop = some p.1)) := by kernel_rfl
theorem lbroken_eq (d : Nat) {L r k : Nat} {w : W} (h : WOk L r k w) (hk : k ≤ 98) {ru : Str} (hr : SOk ru) (μ : Sto) : (cfN P (d + 15)).call 122 [lw w, cs L r ru] μ = .ok (nat (faultW L r w)) μ := by
  rw [call_at at_law_stream_broken (d + 14) rfl]
  obtain ⟨x0, x1, x2⟩ := xs_len h (by omega)
  have n0 := h.n0
  have n1 := h.n1
  have n6 := h.n6
  have n7 := h.n7
  have gl := llinks_eq (d + 13) w.l0 w.l1 (xs0 w) (xs1 w) (xsu w) x0 x1 x2 μ
  have gh := lhv_eq h.i μ (n := d + 14) (by omega)
  have g6 := l6_eq h.i μ
  have g7 := fun v0 v1 v2 v3 v4 v5 v6 v7 v8 v9 v10 v12 v14 v15 v16 v17 => ev_deeper (mapAt (F_l7 μ v0 v1 v2 v3 v4 v5 v6 v7 v8 v9 v10 v12 v14 v15 v16 v17) (is_mem h.i)) (fun z => by cases z) (n := d + 14) (by omega)
  simp only at g7
  have gn := mapAt (F_lne μ) (is_mem h.i)
  simp only at gn
  have e8 := s8_prs h
  have j8 : idxM μ (lw w) (.int 8) = some (prs (xsu w)) := by rw [lw_8, e8]
  have cw : cutM (lw w) none (some 2) = some (lks w.l0 w.l1) := rfl
  have nm := nmemP (xsu w) w.l1.p w.l1.m μ
  have in1 := ne_nil (nats_pus w.i.held) (by decide) μ
  rw [List.isEmpty_map] at in1
  have in1 : cmpOp .ne (nats w.i.held) (.tup []) μ = some (!w.i.held.isEmpty) := in1
  have a0 := fun v1 v2 v3 v4 v5 v6 v7 v8 v9 v10 v11 v12 v13 v14 v15 v16 v17 => add_cut (cf := cfN P (d + 14)) (o0 := some (lw w)) (env := [v1, v2, v3, v4, v5, v6, v7, v8, v9, v10, v11, v12, v13, v14, v15, v16, v17]) (μ := μ) (i := 14) (e := .idx (.var 0) (.con (.int (6)))) (e' := .idx (.var 0) (.con (.int (4)))) (l := w.s6) (g := w.g0) (by simp) (by simp) (by simp) (by omega) h.s6.r0 (by simp) h.g0 (by omega)
  have a1 := fun v1 v2 v3 v4 v5 v6 v7 v8 v9 v10 v11 v12 v13 v14 v15 v16 v17 => add_cut (cf := cfN P (d + 14)) (o0 := some (lw w)) (env := [v1, v2, v3, v4, v5, v6, v7, v8, v9, v10, v11, v12, v13, v14, v15, v16, v17]) (μ := μ) (i := 14) (e := .idx (.var 0) (.con (.int (7)))) (e' := .idx (.var 0) (.con (.int (5)))) (l := w.s7) (g := w.g1) (by simp) (by simp) (by simp) (by omega) h.s7.r0 (by simp) h.g1 (by omega)
  show outR (evSs (cfN P (d + 14)) (_ :: _ :: _ :: _ :: _ :: _ :: _ :: _ :: _ :: _ :: _ :: []) [some (lw w), some (cs L r ru), none, none, none, none, none, none, none, none, none, none, none, none, none, none, none, none] μ) = _
  have s1 : evS (cfN P (d + 14)) (.par [(2, false), (3, false)] [(.idx (.var 1) (.con (.int (0)))), (.idx (.var 1) (.con (.int (1))))]) [some (lw w), some (cs L r ru), none, none, none, none, none, none, none, none, none, none, none, none, none, none, none, none] μ = .ok .nx [some (lw w), some (cs L r ru), some (nat L), some (nat r), none, none, none, none, none, none, none, none, none, none, none, none, none, none] μ := by
    simp [setSlot, nxO]
  rw [st_cons, s1, seq_nx, st_cons, asg_at (a0 _ _ _ _ _ _ _ _ _ _ _ _ _ _ _ _ _) (by simp), seq_nx]
  simp only [List.set]
  rw [st_cons, asg_at (v := nat (lfault w.l0 w.l1 (xs0 w) (xs1 w) (xsu w))) (μ' := μ) (by
    have z : PV.tup [prs ((w.g0 ++ w.s6).map prOf), prs ((w.g1 ++ w.s7).map prOf)] = snt (xs0 w) (xs1 w) := rfl
    simp only [xs0] at gl
    simp [a1, -ev_bin, -ev_blt, SZ, -List.map_append, cw, z, gl, -lw_8, j8, xs0]) (by simp), seq_nx]
  simp only [List.set]
  have pn : ∀ x, OL.plain (prs x) = some (prs x) := fun _ => rfl
  generalize hL : some (prs ((w.g0 ++ w.s6).map prOf)) = lf
  have s4 : evS (cfN P (d + 14)) (.asg (.tp [(.tp [(.nm 6), (.nm 7), (.nm 8), (.nm 9)]), (.tp [(.nm 10), (.nm 11), (.nm 12), (.nm 13)])]) (.tup [(.idx (.var 0) (.con (.int (2)))), (.idx (.var 0) (.con (.int (3))))])) [some (lw w), some (cs L r ru), some (nat L), some (nat r), lf, some (nat (lfault w.l0 w.l1 (xs0 w) (xs1 w) (xsu w))), none, none, none, none, none, none, none, none, none, none, none, none] μ = .ok .nx [some (lw w), some (cs L r ru), some (nat L), some (nat r), lf, some (nat (lfault w.l0 w.l1 (xs0 w) (xs1 w) (xsu w))), some (nat w.o.k), some (nat w.o.n), some (nats w.o.lost), some (nat w.o.lim), some (nat w.i.rd), some (nats w.i.held), some (oN w.i.stop), some (nat w.i.gr), none, none, none, none] μ := by
    have e1 : eBox w.o = .tup [nat w.o.k, nat w.o.n, nats w.o.lost, nat w.o.lim] := rfl
    have e2 : eIn w.i = .tup [nat w.i.rd, nats w.i.held, oN w.i.stop, nat w.i.gr] := rfl
    simp [SZ, nxO, e1, e2]
  rw [st_cons, s4, seq_nx, st_cons]
  unfold faultW
  generalize lfault w.l0 w.l1 (xs0 w) (xs1 w) (xsu w) = n at *
  by_cases hn : n = 0
  · rw [if_neg (by simpa using hn)]
    subst hn
    rw [iff_at (t := false) (by simp [nat]), if_neg (by simp), st_nil, seq_nx]
    have g6' : cmpOp .nmem (oN w.i.stop) (.tup [.non, .int (L : Int)]) μ = _ := g6
    rw [st_cons, iff_con (t := t6 L w.i) (by
      unfold t6
      have z : decide ((L : Int) < (w.i.rd : Int)) = decide (L < w.i.rd) := decide_eq_decide.mpr (by omega)
      rw [← z]
      generalize (w.i.stop == none || w.i.stop == some L) = tt at g6'
      by_cases hh : (L : Int) < (w.i.rd : Int)
      · have hh' : L < w.i.rd := by omega
        simp [nat, hh, hh']
      · have hh' : ¬ L < w.i.rd := by omega
        simp [nat, hh, hh', SZ, g6']), seq_if, seq_nx, st_cons, iff_con (t := b7 r w.i) (by
      rw [ev_or, g7]
      unfold b7
      have z : decide ((w.i.rd : Int) + (r : Int) < (w.i.gr : Int)) = decide (w.i.rd + r < w.i.gr) := decide_eq_decide.mpr (by omega)
      rw [← z]
      generalize (w.i.held.any fun x => decide (w.i.gr ≤ x)) = t7
      cases t7 <;> simp [nat]), seq_if, seq_nx]
    have s5 : evS (cfN P (d + 14)) (.par [(14, false), (15, false)] [(.idx (.var 0) (.con (.int (0)))), (.idx (.var 0) (.con (.int (1))))]) [some (lw w), some (cs L r ru), some (nat L), some (nat r), lf, some (nat 0), some (nat w.o.k), some (nat w.o.n), some (nats w.o.lost), some (nat w.o.lim), some (nat w.i.rd), some (nats w.i.held), some (oN w.i.stop), some (nat w.i.gr), none, none, none, none] μ = .ok .nx [some (lw w), some (cs L r ru), some (nat L), some (nat r), lf, some (nat 0), some (nat w.o.k), some (nat w.o.n), some (nats w.o.lost), some (nat w.o.lim), some (nat w.i.rd), some (nats w.i.held), some (oN w.i.stop), some (nat w.i.gr), some (lkv w.l0 false), some (lkv w.l1 true), none, none] μ := by
      simp [setSlot, nxO]
    rw [st_cons, s5, seq_nx]
    obtain ⟨e, he⟩ : ∃ e, e = [some (lw w), some (cs L r ru), some (nat L), some (nat r), lf, some (nat 0), some (nat w.o.k), some (nat w.o.n), some (nats w.o.lost), some (nat w.o.lim), some (nat w.i.rd), some (nats w.i.held), some (oN w.i.stop), some (nat w.i.gr), some (lkv w.l0 false), some (lkv w.l1 true), none, none] := ⟨_, rfl⟩
    have s6 : evS (cfN P (d + 14)) (.iff (.and (.cmp .eq (.idx (.var 14) (.con (.int (3)))) (.con (.str "sure"))) (.and (.cmp .eq (.idx (.var 15) (.con (.int (3)))) (.con (.str "sure"))) (.and (.cmp .eq (.idx (.var 14) (.con (.int (2)))) (.idx (.var 15) (.con (.int (1))))) (.cmp .eq (.idx (.var 15) (.con (.int (2)))) (.idx (.var 14) (.con (.int (1)))))))) [(.iff (.or (.cmp .gt (.blt .min [(.var 6), (.var 2)]) (.call 113 [(.idx (.var 0) (.con (.int (3))))])) (.and (.cmp .gt (.var 6) (.var 2)) (.cmp .ne (.var 12) (.var 2)))) [(.ret (some (.con (.int (8)))))] []), (.iff (.cmp .gt (.var 9) (.var 13)) [(.ret (some (.con (.int (9)))))] [])] []) e μ =
        if crossB w.l0 w.l1 = true then (if b8 L w.o w.i = true then .ok (.rt (.int 8)) e μ else if b9 w.o w.i = true then .ok (.rt (.int 9)) e μ else .ok .nx e μ) else .ok .nx e μ := by
      rw [he, iff_at (t := crossB w.l0 w.l1) (by
        unfold crossB
        simp
        cases w.l0.b <;> cases w.l1.b <;> by_cases h1 : w.l0.p = w.l1.m <;> simp [h1])]
      rw [st_cons, iff_con (t := b8 L w.o w.i) (by
        unfold b8
        have gn' : cmpOp .ne (oN w.i.stop) (.int (L : Int)) μ = _ := gn
        simp only [nat] at gh
        have mn : bltM .min [.int (w.o.k : Int), .int (L : Int)] μ = .ok (.int ((min w.o.k L : Nat) : Int)) μ := by
          rw [bmin2, show min (w.o.k : Int) (L : Int) = ((min w.o.k L : Nat) : Int) by omega]
        have z : decide ((haveT w.i : Int) < ((min w.o.k L : Nat) : Int)) = decide (haveT w.i < min w.o.k L) := decide_eq_decide.mpr (by omega)
        rw [← z]
        generalize decide (w.i.stop = some L) = tt at gn' ⊢
        generalize hm : min w.o.k L = m at mn ⊢
        by_cases hh : (haveT w.i : Int) < (m : Int)
        · have hh' : haveT w.i < m := by omega
          simp [nat, mn, gh, hh, hh']
        · have hh' : ¬ haveT w.i < m := by omega
          by_cases hl : L < w.o.k
          · simp [nat, mn, gh, hh, hh', hl, gn']
          · simp [nat, mn, gh, hh, hh', hl]), seq_if, seq_nx, st_cons, iff_con (t := b9 w.o w.i) (by
        have z : decide ((w.i.gr : Int) < (w.o.lim : Int)) = b9 w.o w.i := decide_eq_decide.mpr (by omega)
        rw [← z]
        simp [nat]), seq_if, seq_nx, st_nil]
    have s7 : evS (cfN P (d + 14)) (.asg (.nm 16) (.or (.cmp .gt (.var 10) (.con (.int (0)))) (.or (.cmp .ne (.var 11) (.tup [])) (.cmp .nisn (.var 12) (.con (.non)))))) e μ = .ok .nx (e.set 16 (some (.bl (fedB w.i)))) μ := by
      have z : decide ((0 : Int) < (w.i.rd : Int)) = decide (0 < w.i.rd) := decide_eq_decide.mpr (by omega)
      have nn : isNon (oN w.i.stop) = !w.i.stop.isSome := by cases w.i.stop <;> rfl
      refine asg_at ?_ (by rw [he]; simp)
      rw [he]
      unfold fedB
      rw [← z]
      by_cases h0 : (0 : Int) < (w.i.rd : Int)
      · have h0' : 0 < w.i.rd := by omega
        simp [nat, h0']
      · have h0' : ¬ 0 < w.i.rd := by omega
        cases hh : w.i.held.isEmpty <;> rw [hh] at in1 <;> simp [nat, h0', in1, nn, SZ]
    have s8 : evS (cfN P (d + 14)) (.ret (some (.ife (.and (.var 16) (.cmp .nmem (.tup [(.idx (.var 15) (.con (.int (2)))), (.idx (.var 15) (.con (.int (1))))]) (.idx (.var 0) (.con (.int (8)))))) (.con (.int (10))) (.con (.int (0)))))) (e.set 16 (some (.bl (fedB w.i)))) μ = .ok (.rt (if b10 w = true then .int 10 else .int 0)) (e.set 16 (some (.bl (fedB w.i)))) μ := by
      rw [he]
      simp only [List.set]
      unfold b10
      generalize fedB w.i = fb
      cases fb
      · simp
      · cases hm : memP (xsu w) w.l1.p w.l1.m <;> rw [hm] at nm <;> simp [-lw_8, j8, nm, SZ]
    rw [← he]
    have ne : ∃ o e', e = o :: e' := ⟨_, _, he⟩
    clear he
    obtain ⟨o, e', rfl⟩ := ne
    rw [st_cons, s6]
    cases t6 L w.i <;> cases b7 r w.i <;> cases crossB w.l0 w.l1 <;> cases b8 L w.o w.i <;> cases b9 w.o w.i <;> simp only [Bool.false_eq_true, if_false, if_true, seq_nx, Out.seq_rt, outR_rt] <;> (try rfl) <;> rw [evSs_cons, s7, seq_nx, evSs_cons, s8] <;> cases b10 w <;> rfl
  · rw [if_pos hn]
    rw [iff_at (t := true) (by simp [nat, hn])]
    simp
end M76
end
section
set_option Elab.async false
set_option linter.all false
set_option maxRecDepth 100000
set_option maxHeartbeats 4000000
/-! the small worlds, part v: texts of deeds; the first world; what is let. -/
namespace M76
open PySem OL
/-- all deeds that any world may have -/
def allD : List PV := [dSide "greet" false, dSide "greet" true, dWord "take", dWord "lose", dWord "room", dWord "read", dSide "crash" false, dSide "crash" true] ++ (List.range 33).map (dHear false) ++ (List.range 33).map (dHear true)
def oddL : List PV := [.tup [.str "crash", .int 2], .tup [.str "take", .int 0], .tup [.str "hear", .int 1, .int 99], .lv [.str "greet", .int 0], .non, .tup [.str "greet", .bl false]]
/-- the text of a value -/
def rp (v : PV) : Str := (pd v).shown
theorem F_rp (μ : Sto) : (allD ++ oddL).map (fun v => bltM .repr [v] μ) = (allD ++ oddL).map fun v => Res.ok (.str (rp v)) μ := by kernel_rfl
theorem F_rok : ((allD ++ oddL).all fun v => PyData.canLay0 (.str (rp v))) = true := by kernel_rfl
theorem F_odd : (oddL.all fun o => allD.all fun v => !(PyData.eqv (pd (.str (rp v))) (pd (.str (rp o))))) = true := by kernel_rfl
end M76
end
section
set_option Elab.async false
set_option linter.all false
set_option maxRecDepth 100000
set_option maxHeartbeats 4000000
/-! the small worlds, part w: whether a script breaks a sentence, by the program. -/
namespace M76
open PySem OL
theorem at_first_stream_world : P.funs[80]? = some f80 := fun_at defs_eq _ rfl
theorem at_is_breaking : P.funs[98]? = some f98 := fun_at defs_eq _ rfl
def rulesL : List Str := ["to", "peer", "older", "count", "bare", "limit", "have", "end"]
def boundsL : List (Int × Int) := [(1, 1), (1, 2), (2, 1), (2, 2)]
def casesL : List (Nat × Nat × Int × Int) := [0, 1, 2].flatMap fun L => [1, 2].flatMap fun r => boundsL.map fun b => (L, r, b)
theorem cases_mem {L r : Nat} (hL : L ≤ 2) (h1 : 1 ≤ r) (h2 : r ≤ 2) {b : Int × Int} (hb : b ∈ boundsL) : (L, r, b) ∈ casesL := List.mem_flatMap.mpr ⟨L, by simp; omega, List.mem_flatMap.mpr ⟨r, by simp; omega, List.mem_map.mpr ⟨b, hb, rfl⟩⟩⟩
theorem F_rule (μ : Sto) : rulesL.map (fun r => (cfN P 12).call 97 [.str r] μ) = rulesL.map fun r => Res.ok (.str r) μ := by kernel_rfl
theorem F_case (μ : Sto) : casesL.map (fun p => (cfN P 12).call 96 [nat p.1, nat p.2.1, e2 p.2.2.1 p.2.2.2] μ) = casesL.map fun p => Res.ok .non μ := by kernel_rfl
theorem F_rso : (rulesL.all fun r => PyData.canLay0 (.str r)) = true := by kernel_rfl
theorem rule_so {r : Str} (h : r ∈ rulesL) : SOk r := List.all_eq_true.mp F_rso r h
theorem glo10 : P.glos.getD 10 .non = .int 10 := by kernel_rfl
@[simp] theorem glo_10 (d : Nat) : (cfN P d).glo 10 = .int 10 := (glo_eq d 10).trans glo10
theorem iw_eq (d : Nat) (x a b : Int) (μ : Sto) : (cfN P (d + 2)).call 1 [.int x, .int a, .int b] μ = .ok (.bl (decide (a ≤ x) && decide (x ≤ b))) μ := by
  have e0 : (cfN P (d + 1)).call 0 [.int x] μ = .ok (.bl true) μ := by
    rw [call_at at_is_whole d rfl]
    simp [f0, entry, List.replicate, tyOf]
  rw [call_at at_is_within (d + 1) rfl]
  by_cases h1 : a ≤ x <;> by_cases h2 : x ≤ b <;> simp [f1, entry, List.replicate, e0, h1, h2]
theorem F_link0 (μ : Sto) : (cfN P 12).call 32 [.int 0, .int 1] μ = Res.ok (lkv ⟨1, 0, false⟩ false) μ := by kernel_rfl
theorem F_link1 (μ : Sto) : (cfN P 12).call 32 [.int 1, .int 2] μ = Res.ok (lkv ⟨2, 0, false⟩ true) μ := by kernel_rfl
def firstW (L : Nat) (ru : Str) : W := ⟨⟨1, 0, false⟩, ⟨2, 0, false⟩, ⟨0, 0, [], lim0 L ru⟩, ⟨0, [], none, 0⟩, [], [], [], [], []⟩
theorem first_ok {L r : Nat} (ru : Str) (hL : L ≤ 2) (h1 : 1 ≤ r) (h2 : r ≤ 2) : WOk L r 0 (firstW L ru) := by
  have e : ∀ {Q : PV → Prop}, ∀ v ∈ ([] : List PV), Q v := fun v hv => by cases hv
  refine ⟨?_, in0_in hL h1 h2, e, e, e, e, e, Nat.le_refl _, Nat.le_refl _, Nat.le_refl _, Nat.le_refl _, Nat.le_refl _⟩
  show (⟨0, 0, [], lim0 L ru⟩ : OS) ∈ outs L
  unfold lim0
  split
  · exact (out0_in hL).2
  · exact (out0_in hL).1
theorem first_eq (d : Nat) {L r : Nat} (hL : L ≤ 2) (h1 : 1 ≤ r) (h2 : r ≤ 2) {ru : Str} (hr : SOk ru) (μ : Sto) : (cfN P (d + 16)).call 80 [nat L, nat r, .str ru] μ = .ok (pw L r (firstW L ru)) μ := by
  rw [call_at at_first_stream_world (d + 15) rfl]
  have l0 := call_deeper (F_link0 μ) (fun z => by cases z) (n := d + 15) (by omega)
  have l1 := call_deeper (F_link1 μ) (fun z => by cases z) (n := d + 15) (by omega)
  have gf := full_eq d hL hr μ
  have gi : (cfN P (d + 15)).call 6 [nat r] μ = _ := call_deeper (mapAt (F_ib μ) (show r ∈ [1, 2] by simp; omega)) (fun z => by cases z) (by omega)
  simp [f80, entry, List.replicate, l0, l1, gf, gi, SZ]
  rfl
theorem deedsD_len {L r k : Nat} {w : W} (h : WOk L r k w) (ru : Str) (b0 b1 : Int) : (deedsD L ru b0 b1 w).length ≤ 4 * k + 13 := by
  have h0 := hearD_len h ru b0 b1 false
  have h1 := hearD_len h ru b0 b1 true
  have lc : ∀ (b : Bool) (v : Dd), (cond b [v] []).length ≤ 1 := by intro b v; cases b <;> simp
  have a1 := lc (takesB L ru w) .take
  have a3 := lc w.l1.b .room
  have a4 := lc (w.i.held.contains w.i.rd) .read
  have a5 := lc (crashB ru b0 b1 w false) (.crash false)
  have a6 := lc (crashB ru b0 b1 w true) (.crash true)
  have a2 : (cond (underT w.o).isEmpty [] [Dd.lose]).length ≤ 1 := by cases (underT w.o).isEmpty <;> simp
  unfold deedsD
  simp only [List.length_append, List.length_cons, List.length_nil]
  omega
theorem dV_mem {L r k : Nat} {w : W} (h : WOk L r k w) (hk : k ≤ 16) {ru : Str} {b0 b1 : Int} {x : Dd} (hx : x ∈ deedsD L ru b0 b1 w) : dV x ∈ allD := by
  have ok := deedsD_ok hx
  unfold allD
  cases x with
  | greet s => cases s <;> simp [dV]
  | take => simp [dV]
  | lose => simp [dV]
  | room => simp [dV]
  | read => simp [dV]
  | crash s => cases s <;> simp [dV]
  | hear s n q =>
    have hn : n < 33 := by
      have a := (List.getElem?_eq_some_iff.mp ok).1
      have b := hearL_len h s
      omega
    cases s
    · exact List.mem_append_left _ (List.mem_append_right _ (List.mem_map.mpr ⟨n, List.mem_range.mpr hn, rfl⟩))
    · exact List.mem_append_right _ (List.mem_map.mpr ⟨n, List.mem_range.mpr hn, rfl⟩)
theorem rp_eq {v : PV} (h : v ∈ allD ++ oddL) (μ : Sto) : bltM .repr [v] μ = .ok (.str (rp v)) μ := mapAt (F_rp μ) h
theorem rp_so {v : PV} (h : v ∈ allD ++ oddL) : SOk (rp v) := List.all_eq_true.mp F_rok v h
/-! ### scripts -/
def runW (L r : Nat) (ru : Str) : List Dd → W → W
  | [], w => w
  | x :: xs, w => runW L r ru xs (behW L r ru x w)
def legal (L r : Nat) (ru : Str) (b0 b1 : Int) : List Dd → W → Prop
  | [], _ => True
  | x :: xs, w => x ∈ deedsD L ru b0 b1 w ∧ legal L r ru b0 b1 xs (behW L r ru x w)
def clean (L r : Nat) (ru : Str) : List Dd → W → Bool
  | [], _ => true
  | x :: xs, w => decide (faultW L r w = 0) && clean L r ru xs (behW L r ru x w)
section
variable (d : Nat) {L r : Nat} (hL : L ≤ 2) (h1 : 1 ≤ r) (h2 : r ≤ 2) {ru : Str} (hr : SOk ru) (b0 b1 : Int) (script : Option PV) (sent : Int) (μ : Sto)
def breakB : List S := [(.asg (.nm 9) (.comp (.blt .repr [(.var 10)]) (.nm 10) (.call 86 [(.var 7), (.var 3), (.var 0)]) none [10])), (.iff (.or (.cmp .nisn (.call 95 [(.var 7), (.var 6)]) (.con (.non))) (.cmp .nmem (.blt .repr [(.var 8)]) (.var 9))) [(.ret (some (.con (.bl false))))] []), (.asg (.nm 7) (.call 92 [(.var 7), (.var 8), (.var 6)]))]
include hL h1 h2 hr in
theorem break_known {k : Nat} {w : W} (h : WOk L r k w) (hk : k ≤ 16) (v x9 x10 : Option PV) : evS (cfN P (d + 18)) (.asg (.nm 9) (.comp (.blt .repr [(.var 10)]) (.nm 10) (.call 86 [(.var 7), (.var 3), (.var 0)]) none [10])) [some (.str ru), some (nat L), some (nat r), some (e2 b0 b1), script, some (.int sent), some (cs L r ru), some (pw L r w), v, x9, x10] μ =
    .ok .nx [some (.str ru), some (nat L), some (nat r), some (e2 b0 b1), script, some (.int sent), some (cs L r ru), some (pw L r w), v, some (.lv ((deedsD L ru b0 b1 w).map fun x => .str (rp (dV x)))), x10] μ := by
  have gd := deeds_eq (d + 3) h (by omega) hr b0 b1 μ
  rw [← deedsD_map] at gd
  refine asg_at ?_ (by simp)
  refine comp_map (it := dV) (by
    have z : e2 b0 b1 = .tup [.int b0, .int b1] := rfl
    simp [z, gd]) (wk_lv μ _) (fun x hx => ⟨[some (.str ru), some (nat L), some (nat r), some (e2 b0 b1), script, some (.int sent), some (cs L r ru), some (pw L r w), v, x9, some (dV x)], by simp [wipeE], ?_⟩) (by have := deedsD_len h ru b0 b1; unfold SZ; omega)
  have m := dV_mem h hk hx
  have g := rp_eq (List.mem_append_left _ m) μ
  have pl : OL.plain (dV x) = some (dV x) := by cases x <;> rfl
  simp [pl, g]
theorem known_nmem {s : Str} (hs : SOk s) {l : List Dd} (hl : ∀ x ∈ l, dV x ∈ allD) : cmpOp .nmem (.str s) (.lv (l.map fun x => .str (rp (dV x)))) μ = some (!(l.any fun x => PyData.eqv (pd (.str (rp (dV x)))) (pd (.str s)))) := by
  show (inM μ (.str s) (.lv (l.map fun x => .str (rp (dV x))))).map (!·) = _
  rw [inM_lv (n := 1) (m := 1) (by rw [pu]; exact hs) (pus_all.mpr fun v hv => by
    obtain ⟨x, hx, rfl⟩ := List.mem_map.mp hv
    rw [pu]
    exact rp_so (List.mem_append_left _ (hl x hx))) (by decide), List.any_map]
  rfl
include hL h1 h2 hr in
/-- a deed that is there -/
theorem break_yes {k : Nat} {w : W} (h : WOk L r k w) (hk : k ≤ 16) {x : Dd} (hx : x ∈ deedsD L ru b0 b1 w) (x9 x10 : Option PV) : ∃ y9, evSs (cfN P (d + 18)) breakB [some (.str ru), some (nat L), some (nat r), some (e2 b0 b1), script, some (.int sent), some (cs L r ru), some (pw L r w), some (dV x), x9, x10] μ =
    if (!decide (faultW L r w = 0)) = true then .ok (.rt (.bl false)) [some (.str ru), some (nat L), some (nat r), some (e2 b0 b1), script, some (.int sent), some (cs L r ru), some (pw L r w), some (dV x), y9, x10] μ
    else .ok .nx [some (.str ru), some (nat L), some (nat r), some (e2 b0 b1), script, some (.int sent), some (cs L r ru), some (pw L r (behW L r ru x w)), some (dV x), y9, x10] μ := by
  refine ⟨some (.lv ((deedsD L ru b0 b1 w).map fun x => .str (rp (dV x)))), ?_⟩
  have m := dV_mem h hk hx
  have g := rp_eq (List.mem_append_left _ m) μ
  have gs := rp_so (List.mem_append_left oddL m)
  have pl : OL.plain (dV x) = some (dV x) := by cases x <;> rfl
  have nm := known_nmem μ gs (l := deedsD L ru b0 b1 w) fun y hy => dV_mem h hk hy
  have an : ((deedsD L ru b0 b1 w).any fun y => PyData.eqv (pd (.str (rp (dV y)))) (pd (.str (rp (dV x))))) = true := List.any_eq_true.mpr ⟨x, hx, by
    rw [pd]
    show (rp (dV x) == rp (dV x)) = true
    simp⟩
  rw [an] at nm
  have gf := fault_eq (d + 3) h (by omega) hr μ
  have fl := pl_fN (faultW L r w)
  have nf := isNon_fN (faultW L r w)
  have gb := beh_eq d h (by omega) hL h1 h2 hr (deedsD_ok hx) μ
  have db : disown (pw L r (behW L r ru x w)) = pw L r (behW L r ru x w) := rfl
  unfold breakB
  rw [st_cons, break_known d hL h1 h2 hr b0 b1 script sent μ h hk, seq_nx, st_cons, iff_con (t := !decide (faultW L r w = 0)) (by
    generalize decide (faultW L r w = 0) = t at nf ⊢
    cases t <;> simp [gf, fl.2, nf, pl, g, nm]), seq_if, seq_nx, st_cons, asg_at (v := pw L r (behW L r ru x w)) (μ' := μ) (by simp [pl, gb]) (by simp), seq_nx]
  simp only [List.set, st_nil]
include hL h1 h2 hr in
/-- one that isn't -/
theorem break_no {k : Nat} {w : W} (h : WOk L r k w) (hk : k ≤ 16) {v : PV} (hv : v ∈ oddL) (x9 x10 : Option PV) : ∃ env, evSs (cfN P (d + 18)) breakB [some (.str ru), some (nat L), some (nat r), some (e2 b0 b1), script, some (.int sent), some (cs L r ru), some (pw L r w), some v, x9, x10] μ =
    .ok (.rt (.bl false)) env μ := by
  refine ⟨[some (.str ru), some (nat L), some (nat r), some (e2 b0 b1), script, some (.int sent), some (cs L r ru), some (pw L r w), some v, some (.lv ((deedsD L ru b0 b1 w).map fun x => .str (rp (dV x)))), x10], ?_⟩
  have g := rp_eq (List.mem_append_right allD hv) μ
  have gs := rp_so (List.mem_append_right allD hv)
  have pl : OL.plain v = some v := by
    unfold oddL at hv
    simp only [List.mem_cons, List.not_mem_nil, or_false] at hv
    rcases hv with rfl | rfl | rfl | rfl | rfl | rfl <;> rfl
  have nm := known_nmem μ gs (l := deedsD L ru b0 b1 w) fun y hy => dV_mem h hk hy
  have an : ((deedsD L ru b0 b1 w).any fun y => PyData.eqv (pd (.str (rp (dV y)))) (pd (.str (rp v)))) = false := by
    rw [List.any_eq_false]
    intro y hy
    have z := List.all_eq_true.mp (List.all_eq_true.mp F_odd v hv) _ (dV_mem h hk hy)
    simpa using z
  rw [an] at nm
  have gf := fault_eq (d + 3) h (by omega) hr μ
  have fl := pl_fN (faultW L r w)
  have nf := isNon_fN (faultW L r w)
  unfold breakB
  rw [st_cons, break_known d hL h1 h2 hr b0 b1 script sent μ h hk, seq_nx, st_cons, iff_con (t := true) (by
    generalize decide (faultW L r w = 0) = t at nf ⊢
    cases t <;> simp [gf, fl.2, nf, pl, g, nm]), if_pos rfl]
  rfl
end
end M76
end
section
set_option Elab.async false
set_option linter.all false
set_option maxRecDepth 100000
set_option maxHeartbeats 4000000
/-! the small worlds, part x: is_breaking whole. -/
namespace M76
open PySem OL
theorem runW_ok {L r : Nat} {ru : Str} {b0 b1 : Int} (hL : L ≤ 2) (h1 : 1 ≤ r) (h2 : r ≤ 2) : ∀ (xs : List Dd) (k : Nat) (w : W), WOk L r k w → legal L r ru b0 b1 xs w → WOk L r (k + xs.length) (runW L r ru xs w)
  | [], k, w, h, _ => h
  | x :: xs, k, w, h, hl => by
    have z := runW_ok hL h1 h2 xs (k + 1) _ (behW_ok h hL h1 h2 ru (deedsD_ok hl.1)) hl.2
    rw [List.length_cons, show k + (xs.length + 1) = k + 1 + xs.length by omega]
    exact z
section
variable (d : Nat) {L r : Nat} (hL : L ≤ 2) (h1 : 1 ≤ r) (h2 : r ≤ 2) {ru : Str} (hr : SOk ru) (b0 b1 : Int) (script : Option PV) (sent : Int) (μ : Sto)
def brE (L r : Nat) (ru : Str) (b0 b1 : Int) (script : Option PV) (sent : Int) (w : W) (x8 x9 x10 : Option PV) : OL.Env := [some (.str ru), some (nat L), some (nat r), some (e2 b0 b1), script, some (.int sent), some (cs L r ru), some (pw L r w), x8, x9, x10]
include hL h1 h2 hr in
theorem break_loop : ∀ (xs : List Dd) (k : Nat) (w : W) (tl : List PV) (x8 x9 x10 : Option PV), WOk L r k w → k + xs.length ≤ 16 → legal L r ru b0 b1 xs w →
    (clean L r ru xs w = true → ∃ y8 y9, forL (assT (.nm 8)) (evSs (cfN P (d + 18)) breakB) (xs.map dV ++ tl) (brE L r ru b0 b1 script sent w x8 x9 x10) μ = forL (assT (.nm 8)) (evSs (cfN P (d + 18)) breakB) tl (brE L r ru b0 b1 script sent (runW L r ru xs w) y8 y9 x10) μ) ∧
    (clean L r ru xs w = false → ∃ env, forL (assT (.nm 8)) (evSs (cfN P (d + 18)) breakB) (xs.map dV ++ tl) (brE L r ru b0 b1 script sent w x8 x9 x10) μ = .ok (.rt (.bl false)) env μ)
  | [], k, w, tl, x8, x9, x10, h, hk, hl => ⟨fun _ => ⟨x8, x9, rfl⟩, fun z => by cases z⟩
  | x :: xs, k, w, tl, x8, x9, x10, h, hk, hl => by
    rw [List.length_cons] at hk
    obtain ⟨y9, e⟩ := break_yes d hL h1 h2 hr b0 b1 script sent μ h (by omega) hl.1 x9 x10
    by_cases h0 : faultW L r w = 0
    · rw [decide_eq_true h0] at e
      obtain ⟨f1, f2⟩ := break_loop xs (k + 1) (behW L r ru x w) tl (some (dV x)) y9 x10 (behW_ok h hL h1 h2 ru (deedsD_ok hl.1)) (by omega) hl.2
      have e1 : forL (assT (.nm 8)) (evSs (cfN P (d + 18)) breakB) ((x :: xs).map dV ++ tl) (brE L r ru b0 b1 script sent w x8 x9 x10) μ = forL (assT (.nm 8)) (evSs (cfN P (d + 18)) breakB) (xs.map dV ++ tl) (brE L r ru b0 b1 script sent (behW L r ru x w) (some (dV x)) y9 x10) μ := by
        rw [List.map_cons, List.cons_append, forL_step (env1 := brE L r ru b0 b1 script sent w (some (dV x)) x9 x10) (env2 := brE L r ru b0 b1 script sent (behW L r ru x w) (some (dV x)) y9 x10) (μ' := μ) (by rfl) (by
          simp only [Bool.not_true, Bool.false_eq_true, if_false] at e
          exact e)]
      unfold clean
      rw [decide_eq_true h0, Bool.true_and, e1]
      exact ⟨f1, f2⟩
    · rw [decide_eq_false h0] at e
      unfold clean
      rw [decide_eq_false h0, Bool.false_and]
      refine ⟨fun z => (by cases z), fun _ => ⟨brE L r ru b0 b1 script sent w (some (dV x)) y9 x10, ?_⟩⟩
      rw [List.map_cons, List.cons_append, forL]
      have a : assT (.nm 8) (dV x) (brE L r ru b0 b1 script sent w x8 x9 x10) = some (brE L r ru b0 b1 script sent w (some (dV x)) x9 x10) := rfl
      rw [a]
      simp only [Bool.not_false, if_true] at e
      have e2 : evSs (cfN P (d + 18)) breakB (brE L r ru b0 b1 script sent w (some (dV x)) x9 x10) μ = .ok (.rt (.bl false)) (brE L r ru b0 b1 script sent w (some (dV x)) y9 x10) μ := e
      simp only [e2]
theorem eq_fN (n : Nat) (s : Int) (hs : 1 ≤ s) : cmpOp .eq (fN n) (.int s) μ = some (decide ((n : Int) = s)) := by
  unfold fN
  split
  · rename_i h
    subst h
    rw [decide_eq_false (by omega)]
    show eqM μ .non (.int s) = _
    rw [eqM_pu (n := 1) (m := 1) rfl rfl (by decide) (by decide), pd, pd]
    rfl
  · exact cmp_eqI _ _ μ
include hL h1 h2 hr in
theorem breaking_pre (hru : ru ∈ rulesL) (hb : (b0, b1) ∈ boundsL) (hs1 : 1 ≤ sent) (hs2 : sent ≤ 10) (ds : List PV) : (cfN P (d + 19)).call 98 [.str ru, nat L, nat r, e2 b0 b1, .tup ds, .int sent] μ =
    outR ((forL (assT (.nm 8)) (evSs (cfN P (d + 18)) breakB) ds (brE L r ru b0 b1 (some (.tup ds)) sent (firstW L ru) none none none) μ).seq (evSs (cfN P (d + 18)) [.ret (some (.cmp .eq (.call 95 [(.var 7), (.var 6)]) (.var 5)))])) := by
  rw [call_at at_is_breaking (d + 18) rfl]
  have nr := call_deeper (mapAt (F_rule μ) hru) (fun z => by cases z) (n := d + 18) (by omega)
  have nc := call_deeper (mapAt (F_case μ) (cases_mem hL h1 h2 hb)) (fun z => by cases z) (n := d + 18) (by omega)
  have iw := iw_eq (d + 16) sent 1 10 μ
  rw [decide_eq_true hs1, decide_eq_true hs2] at iw
  have gf := first_eq (d + 2) hL h1 h2 hr μ
  have pe : OL.plain (e2 b0 b1) = some (e2 b0 b1) := rfl
  simp only at nc
  have ty : tyOf μ (.tup ds) .tup = some true := rfl
  have s1 : evSs (cfN P (d + 18)) [(.expr (.call 97 [(.var 0)])), (.expr (.call 96 [(.var 1), (.var 2), (.var 3)])), (.iff (.not (.call 1 [(.var 5), (.con (.int (1))), (.glo 10)])) [(.rai 1 [(.var 5)])] []), (.iff (.not (.isi (.var 4) .tup)) [(.ret (some (.con (.bl false))))] []), (.asg (.nm 6) (.tup [(.var 1), (.var 2), (.var 0)])), (.asg (.nm 7) (.call 80 [(.var 1), (.var 2), (.var 0)]))] [some (.str ru), some (nat L), some (nat r), some (e2 b0 b1), some (.tup ds), some (.int sent), none, none, none, none, none] μ = .ok .nx (brE L r ru b0 b1 (some (.tup ds)) sent (firstW L ru) none none none) μ := by
    have cs' : PV.tup [nat L, nat r, .str ru] = cs L r ru := rfl
    simp [nr, nc, iw, pe, ty, SZ, nxO, cs', gf, brE]
  show outR (evSs (cfN P (d + 18)) ([_, _, _, _, _, _] ++ [_, _]) [some (.str ru), some (nat L), some (nat r), some (e2 b0 b1), some (.tup ds), some (.int sent), none, none, none, none, none] μ) = _
  rw [evSs_app, s1, seq_nx, evSs_cons, forr_at (v := .tup ds) (l := ds) (by simp [brE]) (wk_tup μ _)]
  rfl
include hL h1 h2 hr in
theorem breaking_eq (hru : ru ∈ rulesL) (hb : (b0, b1) ∈ boundsL) (hs1 : 1 ≤ sent) (hs2 : sent ≤ 10) (xs : List Dd) (hx : xs.length ≤ 16) (hl : legal L r ru b0 b1 xs (firstW L ru)) : (cfN P (d + 19)).call 98 [.str ru, nat L, nat r, e2 b0 b1, .tup (xs.map dV), .int sent] μ =
    .ok (.bl (clean L r ru xs (firstW L ru) && decide ((faultW L r (runW L r ru xs (firstW L ru)) : Int) = sent))) μ := by
  rw [breaking_pre d hL h1 h2 hr b0 b1 sent μ hru hb hs1 hs2]
  obtain ⟨f1, f2⟩ := break_loop d hL h1 h2 hr b0 b1 (some (.tup (xs.map dV))) sent μ xs 0 (firstW L ru) [] none none none (first_ok ru hL h1 h2) (by omega) hl
  rw [List.append_nil] at f1 f2
  cases hc : clean L r ru xs (firstW L ru) with
  | false =>
    obtain ⟨env, e⟩ := f2 hc
    rw [e]
    rfl
  | true =>
    obtain ⟨y8, y9, e⟩ := f1 hc
    rw [e, forL_nil, seq_nx]
    have ok := runW_ok hL h1 h2 xs 0 _ (first_ok ru hL h1 h2) hl
    have gf := fault_eq (d + 3) ok (by omega) hr μ
    have fl := pl_fN (faultW L r (runW L r ru xs (firstW L ru)))
    have ef := eq_fN μ (faultW L r (runW L r ru xs (firstW L ru))) sent hs1
    unfold brE
    simp [gf, fl.2, ef]
include hL h1 h2 hr in
theorem breaking_odd (hru : ru ∈ rulesL) (hb : (b0, b1) ∈ boundsL) (hs1 : 1 ≤ sent) (hs2 : sent ≤ 10) (xs : List Dd) (hx : xs.length ≤ 16) (hl : legal L r ru b0 b1 xs (firstW L ru)) {v : PV} (hv : v ∈ oddL) : (cfN P (d + 19)).call 98 [.str ru, nat L, nat r, e2 b0 b1, .tup (xs.map dV ++ [v]), .int sent] μ =
    .ok (.bl false) μ := by
  rw [breaking_pre d hL h1 h2 hr b0 b1 sent μ hru hb hs1 hs2]
  obtain ⟨f1, f2⟩ := break_loop d hL h1 h2 hr b0 b1 (some (.tup (xs.map dV ++ [v]))) sent μ xs 0 (firstW L ru) [v] none none none (first_ok ru hL h1 h2) (by omega) hl
  cases hc : clean L r ru xs (firstW L ru) with
  | false =>
    obtain ⟨env, e⟩ := f2 hc
    rw [e]
    rfl
  | true =>
    obtain ⟨y8, y9, e⟩ := f1 hc
    have ok := runW_ok hL h1 h2 xs 0 _ (first_ok ru hL h1 h2) hl
    obtain ⟨env, e2⟩ := break_no d hL h1 h2 hr b0 b1 (some (.tup (xs.map dV ++ [v]))) sent μ ok (by omega) hv y9 none
    rw [e, forL]
    have a : assT (.nm 8) v (brE L r ru b0 b1 (some (.tup (xs.map dV ++ [v]))) sent (runW L r ru xs (firstW L ru)) y8 y9 none) = some (brE L r ru b0 b1 (some (.tup (xs.map dV ++ [v]))) sent (runW L r ru xs (firstW L ru)) (some v) y9 none) := rfl
    rw [a]
    have e3 : evSs (cfN P (d + 18)) breakB (brE L r ru b0 b1 (some (.tup (xs.map dV ++ [v]))) sent (runW L r ru xs (firstW L ru)) (some v) y9 none) μ = .ok (.rt (.bl false)) env μ := e2
    simp only [e3]
    rfl
end
end M76
end
section
set_option Elab.async false
set_option linter.all false
set_option maxRecDepth 100000
set_option maxHeartbeats 4000000
/-! the draws of a law: any number below the limit. -/
namespace M76
open PySem OL
namespace Dr
abbrev P : Prog := md.prog
theorem at_law_mixed : P.funs[99]? = some f99 := fun_at defs_eq _ rfl
theorem at_law_folded : P.funs[100]? = some f100 := fun_at defs_eq _ rfl
theorem at_law_draw : P.funs[101]? = some f101 := fun_at defs_eq _ rfl
theorem at_law_begun : P.funs[102]? = some f102 := fun_at defs_eq _ rfl
theorem at_law_of : P.funs[104]? = some f104 := fun_at defs_eq _ rfl
theorem evSs_app (cf : CF) : ∀ (a b : List S) (env : OL.Env) (μ : Sto), evSs cf (a ++ b) env μ = (evSs cf a env μ).seq (evSs cf b)
  | [], b, env, μ => by
    rw [evSs]
    rfl
  | x :: a, b, env, μ => by
    rw [List.cons_append, evSs, evSs]
    cases evS cf x env μ with
    | err => rfl
    | exc c fs e m => rfl
    | ok f e m =>
      cases f <;> first | rfl | exact evSs_app cf a b e m
theorem evSs_cons (cf : CF) (s : S) (r : List S) (env : OL.Env) (μ : Sto) : evSs cf (s :: r) env μ = (evS cf s env μ).seq (evSs cf r) := by rw [evSs]
theorem mulL {i : Int} (j : Int) (h : i.natAbs < 2 ^ 64) : intOp .mul i j = some (i * j) := by
  show (if mulOk i j = true then some (i * j) else none) = _
  rw [if_pos]
  unfold mulOk
  rw [decide_eq_true h]
  rfl
theorem mulR (i : Int) {j : Int} (h : j.natAbs < 2 ^ 64) : intOp .mul i j = some (i * j) := by
  show (if mulOk i j = true then some (i * j) else none) = _
  rw [if_pos]
  unfold mulOk
  rw [decide_eq_true h]
  simp
theorem modR (i : Int) {j : Int} (h : j ≠ 0) : intOp .mod i j = some (i.fmod j) := by
  show (if j ≠ 0 then some (i.fmod j) else none) = _
  rw [if_pos h]
theorem fdivR (i : Int) {j : Int} (h : j ≠ 0) (h2 : j.natAbs < 2 ^ 64) : intOp .fdiv i j = some (i.fdiv j) := by
  show (if j ≠ 0 ∧ j.natAbs.log2 < 9000 then some (i.fdiv j) else none) = _
  have z : j.natAbs.log2 < 64 := (Nat.log2_lt (by omega)).mpr h2
  rw [if_pos ⟨h, by omega⟩]
theorem addI (i j : Int) : intOp .add i j = some (i + j) := rfl
theorem subI (i j : Int) : intOp .sub i j = some (i - j) := rfl
theorem bint (i : Int) (μ : Sto) : bltM .int [.int i] μ = .ok (.int i) μ := rfl
theorem mixed_eq (d : Nat) (c n : Int) (h0 : 0 ≤ n) (hn : n ≤ 1000000) (μ : Sto) : ∃ v, (cfN P (d + 1)).call 99 [.int c, .int n] μ = .ok (.int v) μ := by
  rw [call_at at_law_mixed d rfl]
  have n1 : n.natAbs < 2 ^ 64 := by omega
  have n2 : (1 + 2 * n).natAbs < 2 ^ 64 := by omega
  refine ⟨((((c * (1 + 2 * n) * 48271).fmod 2147483647 + 7919 * n * n + 104729 * n) * 69621).fmod 2147483629).fdiv 7, ?_⟩
  simp [f99, entry, List.replicate, mulL (i := 2) n (by decide), mulL (i := 7919) n (by decide), mulL (i := 104729) n (by decide), mulR c n2, mulR (c * (1 + 2 * n)) (j := 48271) (by decide), mulR (7919 * n) n1, addI, bint, modR _ (j := 2147483647) (by decide), modR _ (j := 2147483629) (by decide), mulR _ (j := 69621) (by decide), fdivR _ (j := 7) (by decide) (by decide), nxO]
/-- the state of the draws -/
def st (c g : List Int) (n : Int) : Sto := [.dct [.inr "cells", .inr "great", .inr "spot"] [.lv (c.map .int), .ref 1, .int n], .lst (g.map .int)]
structure MOk (n : Int) (μ : Sto) : Prop where
  ex : ∃ c g, μ = st c g n ∧ c.length = 64 ∧ g.length ≤ 63
  n0 : 0 ≤ n
theorem i_spot (c g : List Int) (n : Int) : idxM (st c g n) (.ref 0) (.str "spot") = some (.int n) := rfl
theorem i_great (c g : List Int) (n : Int) : idxM (st c g n) (.ref 0) (.str "great") = some (.ref 1) := rfl
theorem i_cells (c g : List Int) (n : Int) : idxM (st c g n) (.ref 0) (.str "cells") = some (.lv (c.map .int)) := rfl
theorem s_spot (c g : List Int) (n m : Int) : setM (.ref 0) (.str "spot") (.int m) (st c g n) = some (st c g m) := rfl
theorem l_great (c g : List Int) (n : Int) : bltM .len [.ref 1] (st c g n) = .ok (.int g.length) (st c g n) := by
  show Res.ok (PV.int ((g.map PV.int).length : Nat)) _ = _
  rw [List.length_map]
theorem atI_nat {l : List PV} {n : Nat} {x : PV} (h : l[n]? = some x) : L2.atI l (n : Int) = some x := by
  have hn := (List.getElem?_eq_some_iff.mp h).1
  unfold L2.atI L2.ixN
  rw [if_pos (by omega), if_pos (by omega)]
  simpa using h
theorem at_great (c g : List Int) (n : Int) (k : Nat) (h : k < g.length) : idxM (st c g n) (.ref 1) (.int k) = some (.int g[k]) := by
  show L2.atI (g.map PV.int) (k : Int) = _
  exact atI_nat (by rw [List.getElem?_map, List.getElem?_eq_getElem h]; rfl)
theorem at_ints (c : List Int) (μ : Sto) (k : Nat) (h : k < c.length) : idxM μ (.lv (c.map .int)) (.int k) = some (.int c[k]) := by
  show L2.atI (c.map PV.int) (k : Int) = _
  exact atI_nat (by rw [List.getElem?_map, List.getElem?_eq_getElem h]; rfl)
theorem ixN_nat {l k : Nat} (h : k < l) : L2.ixN l (k : Int) = some k := by
  unfold L2.ixN
  rw [if_pos (by omega), if_pos (by omega)]
  simp
theorem s_great (c g : List Int) (n : Int) (k : Nat) (h : k < g.length) (v : Int) : setM (.ref 1) (.int k) (.int v) (st c g n) = some (st c (g.set k v) n) := by
  show (L2.ixN (g.map PV.int).length (k : Int)).map (fun j => (st c g n).set 1 (.lst ((g.map PV.int).set j (.int v)))) = _
  rw [ixN_nat (by simpa using h)]
  show some ((st c g n).set 1 (.lst ((g.map PV.int).set k (.int v)))) = _
  rw [← List.map_set]
  rfl
theorem dats_ints (f : Nat → Option PyData) : ∀ g : List Int, datsS f (g.map PV.int) = some (g.map PyData.int)
  | [] => by rw [List.map_nil, datsS]; rfl
  | i :: g => by rw [List.map_cons, datsS, datS_int, dats_ints f g]; rfl
theorem ints_lay : ∀ g : List Int, PyData.canLayAll0 (g.map PyData.int) = true ∧ PyData.depthAll (g.map PyData.int) = 0
  | [] => ⟨rfl, rfl⟩
  | i :: g => by
    have := ints_lay g
    rw [List.map_cons, PyData.canLayAll0, PyData.depthAll, this.1, this.2]
    exact ⟨rfl, rfl⟩
theorem ne_great (c g : List Int) (n : Int) : cmpOp .ne (.ref 1) (.lv []) (st c g n) = some (!g.isEmpty) := by
  show (eqM (st c g n) (.ref 1) (.lv [])).map (!·) = _
  have d1 : datM (st c g n) (.ref 1) = some (.list (g.map PyData.int)) := by
    show datS (refD 6 (st c g n)) (.ref 1) = _
    rw [datS]
    show (datsS (refD 5 (st c g n)) (g.map PV.int)).map PyData.list = _
    rw [dats_ints]
    rfl
  have d2 : datM (st c g n) (.lv []) = some (.list []) := by
    show datS (refD 6 (st c g n)) (.lv []) = _
    rw [datS, datsS]
    rfl
  unfold eqM
  rw [d1, d2]
  have a : SeqAt.shaped (.list (g.map PyData.int)) = true := by
    unfold SeqAt.shaped
    rw [PyData.canLay0, PyData.depth, (ints_lay g).1, (ints_lay g).2]
    rfl
  have b : SeqAt.shaped (.list []) = true := rfl
  simp only
  rw [if_pos ⟨a, b⟩]
  cases g <;> rfl
theorem fmod_nat (n m : Int) (hm : 0 < m) : ∃ k : Nat, n.fmod m = k ∧ (k : Int) < m := by
  have a := Int.fmod_nonneg_of_pos n hm
  have b := Int.fmod_lt_of_pos n hm
  exact ⟨(n.fmod m).toNat, by omega, by omega⟩
theorem draw_eq (d : Nat) {μ : Sto} {n : Int} (h : MOk n μ) (hn : n ≤ 100000) {lim : Int} (h1 : 1 ≤ lim) (h2 : lim ≤ 1000000) : ∃ (i : Nat) (μ' : Sto), (cfN P (d + 2)).call 101 [.ref 0, .int lim] μ = .ok (.int i) μ' ∧ (i : Int) < lim ∧ MOk (n + 1) μ' := by
  obtain ⟨⟨c, g, rfl, hc, hg⟩, h0⟩ := h
  rw [call_at at_law_draw (d + 1) rfl]
  -- from the cells
  have last : ∀ x3 x4 x5, ∃ (i : Nat), outR (evSs (cfN P (d + 1)) [(.asg (.nm 3) (.idx (.var 0) (.con (.str "cells")))), (.ret (some (.bin .mod (.blt .int [(.call 99 [(.call 99 [(.bin .add (.idx (.var 3) (.bin .mod (.blt .int [(.var 2)]) (.con (.int (64))))) (.bin .mul (.con (.int (31))) (.bin .fdiv (.var 2) (.con (.int (64)))))), (.var 2)]), (.bin .add (.var 2) (.con (.int (7))))])]) (.var 1))))] [some (.ref 0), some (.int lim), some (.int n), x3, x4, x5] (st c g (n + 1))) = .ok (.int i) (st c g (n + 1)) ∧ (i : Int) < lim := by
    intro x3 x4 x5
    obtain ⟨k, hk, hkl⟩ := fmod_nat n 64 (by decide)
    have ai := at_ints c (st c g (n + 1)) k (by omega)
    obtain ⟨v, hv⟩ := mixed_eq d (c[k]'(by omega) + 31 * n.fdiv 64) n h0 (by omega) (st c g (n + 1))
    obtain ⟨u, hu⟩ := mixed_eq d v (n + 7) (by omega) (by omega) (st c g (n + 1))
    obtain ⟨i, hi, hil⟩ := fmod_nat u lim (by omega)
    refine ⟨i, ?_, hil⟩
    simp [i_cells, nxO, bint, modR n (j := 64) (by decide), hk, ai, fdivR n (j := 64) (by decide) (by decide), mulL (i := 31) _ (by decide), addI, hv, hu, modR u (j := lim) (by omega), hi]
  have s2 : evSs (cfN P (d + 1)) [(.asg (.nm 2) (.idx (.var 0) (.con (.str "spot")))), (.asi (.var 0) (.con (.str "spot")) (.bin .add (.var 2) (.con (.int (1)))))] [some (.ref 0), some (.int lim), none, none, none, none] (st c g n) = .ok .nx [some (.ref 0), some (.int lim), some (.int n), none, none, none] (st c g (n + 1)) := by
    have e : evS (cfN P (d + 1)) (.asi (.var 0) (.con (.str "spot")) (.bin .add (.var 2) (.con (.int (1))))) [some (.ref 0), some (.int lim), some (.int n), none, none, none] (st c g n) = .ok .nx [some (.ref 0), some (.int lim), some (.int n), none, none, none] (st c g (n + 1)) := by
      rw [evS]
      simp [addI, s_spot]
    rw [st_cons]
    simp [i_spot, nxO, e]
  have s3 : (∃ (i : Nat) (μ' : Sto) (env' : OL.Env), evS (cfN P (d + 1)) (.iff (.cmp .ne (.idx (.var 0) (.con (.str "great"))) (.lst [])) [(.asg (.nm 3) (.idx (.var 0) (.con (.str "great")))), (.asg (.nm 4) (.bin .mod (.blt .int [(.var 2)]) (.blt .len [(.var 3)]))), (.asg (.nm 5) (.idx (.var 3) (.var 4))), (.iff (.cmp .gt (.var 5) (.con (.int (0)))) [(.asi (.var 3) (.var 4) (.bin .fdiv (.var 5) (.var 1))), (.ret (some (.bin .mod (.blt .int [(.var 5)]) (.var 1))))] [])] []) [some (.ref 0), some (.int lim), some (.int n), none, none, none] (st c g (n + 1)) = .ok (.rt (.int i)) env' μ' ∧ (i : Int) < lim ∧ MOk (n + 1) μ') ∨
      ∃ x3 x4 x5, evS (cfN P (d + 1)) (.iff (.cmp .ne (.idx (.var 0) (.con (.str "great"))) (.lst [])) [(.asg (.nm 3) (.idx (.var 0) (.con (.str "great")))), (.asg (.nm 4) (.bin .mod (.blt .int [(.var 2)]) (.blt .len [(.var 3)]))), (.asg (.nm 5) (.idx (.var 3) (.var 4))), (.iff (.cmp .gt (.var 5) (.con (.int (0)))) [(.asi (.var 3) (.var 4) (.bin .fdiv (.var 5) (.var 1))), (.ret (some (.bin .mod (.blt .int [(.var 5)]) (.var 1))))] [])] []) [some (.ref 0), some (.int lim), some (.int n), none, none, none] (st c g (n + 1)) = .ok .nx [some (.ref 0), some (.int lim), some (.int n), x3, x4, x5] (st c g (n + 1)) := by
    have ng := ne_great c g (n + 1)
    cases hge : g.isEmpty with
    | true =>
      rw [hge] at ng
      exact .inr ⟨none, none, none, by simp [i_great, SZ, ng]⟩
    | false =>
      rw [hge] at ng
      have hgl : 0 < g.length := by
        cases g with
        | nil => cases hge
        | cons a r => simp
      obtain ⟨k, hk, hkl⟩ := fmod_nat n g.length (by omega)
      have hk2 : k < g.length := by omega
      have ag := at_great c g (n + 1) k hk2
      have lg := l_great c g (n + 1)
      by_cases hp : 0 < g[k]
      · obtain ⟨i, hi, hil⟩ := fmod_nat g[k] lim (by omega)
        have sg := s_great c g (n + 1) k hk2 (g[k].fdiv lim)
        have e : evS (cfN P (d + 1)) (.asi (.var 3) (.var 4) (.bin .fdiv (.var 5) (.var 1))) [some (.ref 0), some (.int lim), some (.int n), some (.ref 1), some (.int k), some (.int g[k])] (st c g (n + 1)) = .ok .nx [some (.ref 0), some (.int lim), some (.int n), some (.ref 1), some (.int k), some (.int g[k])] (st c (g.set k (g[k].fdiv lim)) (n + 1)) := by
          rw [evS]
          simp [fdivR g[k] (j := lim) (by omega) (by omega), sg]
        refine .inl ⟨i, st c (g.set k (g[k].fdiv lim)) (n + 1), [some (.ref 0), some (.int lim), some (.int n), some (.ref 1), some (.int k), some (.int g[k])], ?_, hil, ⟨c, g.set k (g[k].fdiv lim), rfl, hc, by simpa using hg⟩, by omega⟩
        simp [i_great, SZ, ng, nxO, bint, lg, modR n (j := g.length) (by omega), hk, ag, hp, e, modR g[k] (j := lim) (by omega), hi]
      · refine .inr ⟨some (.ref 1), some (.int k), some (.int g[k]), ?_⟩
        simp [i_great, SZ, ng, nxO, bint, lg, modR n (j := g.length) (by omega), hk, ag, hp]
  show ∃ (i : Nat) (μ' : Sto), outR (evSs (cfN P (d + 1)) ([_, _] ++ (_ :: [_, _])) [some (.ref 0), some (.int lim), none, none, none, none] (st c g n)) = .ok (.int i) μ' ∧ (i : Int) < lim ∧ MOk (n + 1) μ'
  rw [evSs_app, s2, OL.seq_nx, evSs_cons]
  rcases s3 with ⟨i, μ', env', e, a, b⟩ | ⟨x3, x4, x5, e⟩
  · exact ⟨i, μ', by rw [e]; rfl, a, b⟩
  · obtain ⟨i, e2, a⟩ := last x3 x4 x5
    refine ⟨i, st c g (n + 1), ?_, a, ⟨c, g, rfl, hc, hg⟩, by omega⟩
    rw [e, OL.seq_nx]
    exact e2
/-- one of some -/
theorem of_eq (d : Nat) {μ : Sto} {n : Int} (h : MOk n μ) (hn : n ≤ 100000) {l : List PV} (h1 : 1 ≤ l.length) (h2 : l.length ≤ 1000000) : ∃ (i : Nat) (hi : i < l.length) (μ' : Sto), (cfN P (d + 3)).call 104 [.ref 0, .lv l] μ = .ok l[i] μ' ∧ MOk (n + 1) μ' := by
  obtain ⟨i, μ', e, hi, hm⟩ := draw_eq d h hn (lim := l.length) (by omega) (by omega)
  have hi2 : i < l.length := by omega
  refine ⟨i, hi2, μ', ?_, hm⟩
  rw [call_at at_law_of (d + 2) rfl]
  have ln : bltM .len [.lv l] μ = .ok (.int (l.length : Nat)) μ := rfl
  have ix : idxM μ' (.lv l) (.int i) = some l[i] := atI_nat (by rw [List.getElem?_eq_getElem hi2])
  have ix2 : idxM μ' (.lv l) (.int i) = some l[i] := ix
  simp [f104, entry, List.replicate, ln, e, ix2]
/-! ### the beginning -/
theorem forL_inv {asn : PV → OL.Env → Option OL.Env} {b : OL.Env → Sto → Out} {Inv : OL.Env → Prop} {μ : Sto} : ∀ {l : List PV} {env : OL.Env}, (∀ x ∈ l, ∀ env, Inv env → ∃ env1 env2, asn x env = some env1 ∧ b env1 μ = .ok .nx env2 μ ∧ Inv env2) → Inv env → ∃ env', forL asn b l env μ = .ok .nx env' μ ∧ Inv env'
  | [], env, _, h => ⟨env, rfl, h⟩
  | x :: r, env, hs, h => by
    obtain ⟨env1, env2, a, b', c⟩ := hs x List.mem_cons_self env h
    obtain ⟨env', d, e⟩ := forL_inv (l := r) (fun y hy => hs y (List.mem_cons_of_mem _ hy)) c
    refine ⟨env', ?_, e⟩
    rw [forL, a]
    simp only [b']
    exact d
theorem set_own (l : List Int) (k : Nat) (h : k < l.length) (v : Int) : setV (.lv (l.map .int)) (.int k) (.int v) = some (.lv ((l.set k v).map .int)) := by
  show (L2.ixN (l.map PV.int).length (k : Int)).map (fun j => PV.lv ((l.map PV.int).set j (.int v))) = _
  rw [ixN_nat (by simpa using h), List.map_set]
  rfl
theorem folded_eq (d : Nat) (ns : List Int) (hn : ns.length ≤ 63) (μ : Sto) : ∃ c : List Int, c.length = 64 ∧ (cfN P (d + 1)).call 100 [.sc (ns.map .int)] μ = .ok (.own (.lv (c.map .int))) μ := by
  rw [call_at at_law_folded d rfl]
  have s1 : evS (cfN P d) (.oasg 1 (.comp (.bin .add (.con (.int (17))) (.var 2)) (.nm 2) (.rng [(.con (.int (64)))]) none [2])) [some (.sc (ns.map .int)), none, none, none] μ = .ok .nx [some (.sc (ns.map .int)), some (.own (.lv (((List.range 64).map fun k : Nat => (17 : Int) + (0 + k)).map .int))), none, none] μ := by
    have c : evE (cfN P d) (.comp (.bin .add (.con (.int (17))) (.var 2)) (.nm 2) (.rng [(.con (.int (64)))]) none [2]) [some (.sc (ns.map .int)), none, none, none] μ = .ok (.lv ((List.range 64).map fun k : Nat => PV.int (17 + (0 + k)))) μ := by
      have w := wk_rg μ (a := 0) (b := 64) rfl
      refine comp_map (l := List.range 64) (it := fun k : Nat => PV.int (0 + k)) (by simp [rgOf]) w (fun k hk => ⟨[some (.sc (ns.map .int)), none, some (.int (0 + k)), none], by simp [wipeE], by simp [addI]⟩) (by simp [SZ])
    rw [st_oasg, c, List.map_map]
    rfl
  generalize hcl : ((List.range 64).map fun k : Nat => (17 : Int) + (0 + k)) = c0 at s1
  have hc0 : c0.length = 64 := by rw [← hcl]; simp
  obtain ⟨env1, e1, c1, x2, x3, hc1, rfl⟩ := forL_inv (asn := assT (.tp [(.nm 2), (.nm 3)])) (b := evSs (cfN P d) [(.osi 1 (.bin .mod (.blt .int [(.var 2)]) (.con (.int (64)))) (.bin .mod (.blt .int [(.bin .add (.bin .mul (.idx (.own 1) (.bin .mod (.blt .int [(.var 2)]) (.con (.int (64))))) (.con (.int (48271)))) (.var 3))]) (.con (.int (2147483647)))))]) (μ := μ)
    (Inv := fun env => ∃ c x2 x3, c.length = 64 ∧ env = [some (.sc (ns.map .int)), some (.own (.lv (c.map PV.int))), x2, x3]) (l := enumd (ns.map .int) 0) (env := [some (.sc (ns.map .int)), some (.own (.lv (c0.map .int))), none, none]) (fun x hx env hI => by
      obtain ⟨c, x2, x3, hc, rfl⟩ := hI
      obtain ⟨i, a, rfl⟩ : ∃ i a, x = .tup [.int i, .int a] := by
        unfold enumd at hx
        obtain ⟨p, hp, rfl⟩ := List.mem_map.mp hx
        obtain ⟨q, hq⟩ := List.mem_map.mp (List.mem_of_getElem? (zip_mem hp))
        exact ⟨0 + (p.2 : Nat), q, by rw [← hq.2]⟩
      obtain ⟨k, hk, hkl⟩ := fmod_nat i 64 (by decide)
      have ai := at_ints c μ k (by omega)
      have so := set_own c k (by omega) ((c[k]'(by omega) * 48271 + a).fmod 2147483647)
      refine ⟨[some (.sc (ns.map .int)), some (.own (.lv (c.map .int))), some (.int i), some (.int a)], [some (.sc (ns.map .int)), some (.own (.lv ((c.set k ((c[k]'(by omega) * 48271 + a).fmod 2147483647)).map .int))), some (.int i), some (.int a)], by simp, ?_, c.set k ((c[k]'(by omega) * 48271 + a).fmod 2147483647), _, _, by simpa using hc, rfl⟩
      rw [st_cons, evS]
      simp [bint, modR i (j := 64) (by decide), hk, ai, mulR _ (j := 48271) (by decide), addI, modR _ (j := 2147483647) (by decide), getO, unown, so, setO, setSlot, nxO]) ⟨c0, none, none, hc0, rfl⟩
  obtain ⟨env2, e2, c2, y2, y3, hc2, rfl⟩ := forL_inv (asn := assT (.nm 2)) (b := evSs (cfN P d) [(.osi 1 (.var 2) (.bin .mod (.blt .int [(.bin .add (.idx (.own 1) (.var 2)) (.bin .mul (.idx (.own 1) (.bin .sub (.var 2) (.con (.int (1))))) (.con (.int (16807)))))]) (.con (.int (2147483647)))))]) (μ := μ)
    (Inv := fun env => ∃ c x2 x3, c.length = 64 ∧ env = [some (.sc (ns.map .int)), some (.own (.lv (c.map PV.int))), x2, x3]) (l := (List.range ((64 : Int) - 1).toNat).map fun k : Nat => PV.int (1 + k)) (env := [some (.sc (ns.map .int)), some (.own (.lv (c1.map .int))), x2, x3]) (fun x hx env hI => by
      obtain ⟨c, x2, x3, hc, rfl⟩ := hI
      obtain ⟨k, hk, rfl⟩ := List.mem_map.mp hx
      have hk : k < 63 := List.mem_range.mp hk
      have a1 := at_ints c μ (k + 1) (by omega)
      have a0 := at_ints c μ k (by omega)
      have so := set_own c (k + 1) (by omega) ((c[k + 1]'(by omega) + c[k]'(by omega) * 16807).fmod 2147483647)
      have e1 : (1 : Int) + (k : Int) = ((k + 1 : Nat) : Int) := by omega
      have e0 : ((k + 1 : Nat) : Int) - 1 = (k : Int) := by omega
      rw [e1]
      refine ⟨[some (.sc (ns.map .int)), some (.own (.lv (c.map .int))), some (.int ((k + 1 : Nat) : Int)), x3], [some (.sc (ns.map .int)), some (.own (.lv ((c.set (k + 1) ((c[k + 1]'(by omega) + c[k]'(by omega) * 16807).fmod 2147483647)).map .int))), some (.int ((k + 1 : Nat) : Int)), x3], by simp, ?_, c.set (k + 1) ((c[k + 1]'(by omega) + c[k]'(by omega) * 16807).fmod 2147483647), _, _, by simpa using hc, rfl⟩
      rw [st_cons, evS]
      generalize ((k + 1 : Nat) : Int) = kk at *
      simp [bint, a1, a0, e0, subI, mulR _ (j := 16807) (by decide), addI, modR _ (j := 2147483647) (by decide), getO, unown, so, setO, setSlot, nxO]) ⟨c1, x2, x3, hc1, rfl⟩
  refine ⟨c2, hc2, ?_⟩
  show outR (evSs (cfN P d) (_ :: _ :: _ :: _ :: []) [some (.sc (ns.map .int)), none, none, none] μ) = _
  rw [st_cons, s1, OL.seq_nx, st_cons, forr_at (v := .enu (.sc (ns.map .int)) 0) (by simp) (wk_enuS μ _), e1, OL.seq_nx, st_cons, forr_at (v := .rg 1 64 1) (by simp [rgOf]) (wk_rg μ rfl), e2, OL.seq_nx, st_cons, st_retO]
  rfl
theorem begun_eq (d : Nat) (ns : List Int) (hn : ns.length ≤ 63) : ∃ μ, (cfN P (d + 2)).call 102 [.sc (ns.map .int)] [] = .ok (.ref 0) μ ∧ MOk 0 μ := by
  obtain ⟨c, hc, e⟩ := folded_eq d ns hn []
  rw [call_at at_law_begun (d + 1) rfl]
  have s1 : evS (cfN P (d + 1)) (.obx 1 (.dic [(.con (.str "cells")), (.call 100 [(.var 0)]), (.con (.str "great")), (.lst []), (.con (.str "spot")), (.con (.int (0)))])) [some (.sc (ns.map .int)), none, none] [] = .ok .nx [some (.sc (ns.map .int)), some (.ref 0), none] [.dct [.inr "cells", .inr "great", .inr "spot"] [.lv (c.map .int), .lv [], .int 0]] := by
    have z : evE (cfN P (d + 1)) (.dic [(.con (.str "cells")), (.call 100 [(.var 0)]), (.con (.str "great")), (.lst []), (.con (.str "spot")), (.con (.int (0)))]) [some (.sc (ns.map .int)), none, none] [] = .ok (.dv [.inr "cells", .inr "great", .inr "spot"] [.lv (c.map .int), .lv [], .int 0]) [] := by
      simp [e, SZ]
      rfl
    rw [evS, z]
    rfl
  have s2 : evE (cfN P (d + 1)) (.comp (.ife (.cmp .ge (.var 2) (.bin .pow (.con (.int (10))) (.con (.int (18))))) (.var 2) (.con (.int (0)))) (.nm 2) (.var 0) none [2]) [some (.sc (ns.map .int)), some (.ref 0), none] [.dct [.inr "cells", .inr "great", .inr "spot"] [.lv (c.map .int), .lv [], .int 0]] = .ok (.lv (ns.map fun i => PV.int (if (10 : Int) ^ 18 ≤ i then i else 0))) [.dct [.inr "cells", .inr "great", .inr "spot"] [.lv (c.map .int), .lv [], .int 0]] := by
    have pw : intOp .pow 10 18 = some (10 ^ 18) := rfl
    refine comp_map (it := PV.int) (by simp) (wk_sc _ _) (fun i hi => ⟨[some (.sc (ns.map .int)), some (.ref 0), some (.int i)], by simp [wipeE], ?_⟩) (by unfold SZ; omega)
    by_cases h : (10 : Int) ^ 18 ≤ i
    · simp only [ev_ife, ev_cmp, ev_var, ev_bin, ev_con, slot_s, slot_z, Option.bind_some, plain_int, Res.opt_some, Res.bind_ok, bin_int, pw, cmp_ge, Option.map_some, trR_bl, decide_eq_true h, if_true, if_pos h]
    · simp only [ev_ife, ev_cmp, ev_var, ev_bin, ev_con, slot_s, slot_z, Option.bind_some, plain_int, Res.opt_some, Res.bind_ok, bin_int, pw, cmp_ge, Option.map_some, trR_bl, decide_eq_false h, Bool.false_eq_true, if_false, if_neg h]
  refine ⟨st c (ns.map fun i => if (10 : Int) ^ 18 ≤ i then i else 0) 0, ?_, ⟨c, _, rfl, hc, by simpa using hn⟩, Int.le_refl 0⟩
  show outR (evSs (cfN P (d + 1)) (_ :: _ :: _ :: []) [some (.sc (ns.map .int)), none, none] []) = _
  rw [st_cons, s1, OL.seq_nx, st_cons, evS, s2]
  have e3 : (ns.map fun i => PV.int (if (10 : Int) ^ 18 ≤ i then i else 0)) = (ns.map fun i => if (10 : Int) ^ 18 ≤ i then i else 0).map PV.int := by rw [List.map_map]; rfl
  rw [e3]
  simp only [Res.thn_ok, boxV, ev_var, ev_con]
  rfl
end Dr
end M76
end
section
set_option Elab.async false
set_option linter.all false
set_option maxRecDepth 100000
set_option maxHeartbeats 4000000
/-! the small worlds, part y: drawn scripts. -/
namespace M76
open PySem OL
theorem at_law_script : P.funs[123]? = some f123 := fun_at defs_eq _ rfl
/-- draws so far -/
def MB (b : Int) (μ : Sto) : Prop := ∃ n, n ≤ b ∧ Dr.MOk n μ
theorem MB.mono {b b' : Int} {μ : Sto} (h : MB b μ) (hb : b ≤ b') : MB b' μ := by
  obtain ⟨n, h1, h2⟩ := h
  exact ⟨n, by omega, h2⟩
theorem draw_mb (d : Nat) {μ : Sto} {b : Int} (h : MB b μ) (hb : b ≤ 100000) {lim : Int} (h1 : 1 ≤ lim) (h2 : lim ≤ 1000000) : ∃ (i : Nat) (μ' : Sto), (cfN P (d + 2)).call 101 [.ref 0, .int lim] μ = .ok (.int i) μ' ∧ (i : Int) < lim ∧ MB (b + 1) μ' := by
  obtain ⟨n, hn, hm⟩ := h
  obtain ⟨i, μ', e, hi, hm'⟩ := Dr.draw_eq d hm (by omega) h1 h2
  exact ⟨i, μ', e, hi, n + 1, by omega, hm'⟩
theorem of_mb (d : Nat) {μ : Sto} {b : Int} (h : MB b μ) (hb : b ≤ 100000) {l : List PV} (h1 : 1 ≤ l.length) (h2 : l.length ≤ 1000000) : ∃ v ∈ l, ∃ (μ' : Sto), (cfN P (d + 3)).call 104 [.ref 0, .lv l] μ = .ok v μ' ∧ MB (b + 1) μ' := by
  obtain ⟨n, hn, hm⟩ := h
  obtain ⟨i, hi, μ', e, hm'⟩ := Dr.of_eq d hm (by omega) h1 h2
  exact ⟨l[i], List.getElem_mem hi, μ', e, n + 1, by omega, hm'⟩
theorem forL_run {asn : PV → OL.Env → Option OL.Env} {b : OL.Env → Sto → Out} {Inv : Nat → OL.Env → Sto → Prop} {Q : PV → Sto → Prop} {N : Nat} {L : List PV} (step : ∀ j, j < N → ∀ x ∈ L, ∀ env μ, Inv j env μ → ∃ env1, asn x env = some env1 ∧ ((∃ env2 μ2, b env1 μ = .ok .nx env2 μ2 ∧ Inv (j + 1) env2 μ2) ∨ ∃ v env2 μ2, b env1 μ = .ok (.rt v) env2 μ2 ∧ Q v μ2)) : ∀ (l : List PV) (j : Nat) (env : OL.Env) (μ : Sto), (∀ x ∈ l, x ∈ L) → j + l.length ≤ N → Inv j env μ →
    (∃ env' μ', forL asn b l env μ = .ok .nx env' μ' ∧ Inv (j + l.length) env' μ') ∨ ∃ v env' μ', forL asn b l env μ = .ok (.rt v) env' μ' ∧ Q v μ'
  | [], j, env, μ, _, _, h => .inl ⟨env, μ, rfl, h⟩
  | x :: r, j, env, μ, hl, hj, h => by
    rw [List.length_cons] at hj
    obtain ⟨env1, a, c⟩ := step j (by omega) x (hl x List.mem_cons_self) env μ h
    rcases c with ⟨env2, μ2, e, i⟩ | ⟨v, env2, μ2, e, q⟩
    · rw [forL_step a e]
      rcases forL_run step r (j + 1) env2 μ2 (fun y hy => hl y (List.mem_cons_of_mem _ hy)) (by omega) i with ⟨env', μ', e2, i2⟩ | z
      · exact .inl ⟨env', μ', e2, by rw [List.length_cons, show j + (r.length + 1) = j + 1 + r.length by omega]; exact i2⟩
      · exact .inr z
    · refine .inr ⟨v, env2, μ2, ?_, q⟩
      rw [forL, a]
      simp only [e]
theorem runW_snoc (L r : Nat) (ru : Str) (x : Dd) : ∀ (xs : List Dd) (w : W), runW L r ru (xs ++ [x]) w = behW L r ru x (runW L r ru xs w)
  | [], w => rfl
  | y :: xs, w => runW_snoc L r ru x xs _
theorem legal_snoc {L r : Nat} {ru : Str} {b0 b1 : Int} {x : Dd} : ∀ (xs : List Dd) (w : W), legal L r ru b0 b1 xs w → x ∈ deedsD L ru b0 b1 (runW L r ru xs w) → legal L r ru b0 b1 (xs ++ [x]) w
  | [], w, _, h => ⟨h, trivial⟩
  | y :: xs, w, h, hx => ⟨h.1, legal_snoc xs _ h.2 hx⟩
theorem clean_snoc (L r : Nat) (ru : Str) (x : Dd) : ∀ (xs : List Dd) (w : W), clean L r ru (xs ++ [x]) w = (clean L r ru xs w && decide (faultW L r (runW L r ru xs w) = 0))
  | [], w => by
    show (decide (faultW L r w = 0) && true) = (true && decide (faultW L r w = 0))
    simp
  | y :: xs, w => by
    show (decide (faultW L r w = 0) && clean L r ru (xs ++ [x]) _) = (decide (faultW L r w = 0) && clean L r ru xs _ && _)
    rw [clean_snoc L r ru x xs, Bool.and_assoc]
    rfl
def numC (L r : Nat) (ru : Str) (xs : List Dd) : Int := if clean L r ru xs (firstW L ru) = true then 0 else -1
/-- what a drawn script is -/
def ScrA (L r : Nat) (ru : Str) (b0 b1 : Int) (v : PV) : Prop := ∃ xs, xs.length ≤ 15 ∧ legal L r ru b0 b1 xs (firstW L ru) ∧ v = .tup [.tup (xs.map dV), .int (if clean L r ru xs (firstW L ru) = true then faultW L r (runW L r ru xs (firstW L ru)) else -1)]
def ScrB (L r : Nat) (ru : Str) (b0 b1 : Int) (v : PV) : Prop := ∃ xs, xs.length ≤ 15 ∧ legal L r ru b0 b1 xs (firstW L ru) ∧ ∃ o ∈ oddL, v = .tup [.tup (xs.map dV ++ [o]), .int (-1)]
theorem neg_eq (cf : CF) (o0 : Option PV) (env : OL.Env) (μ : Sto) (i : Int) : evE cf (.neg (.con (.int i))) (o0 :: env) μ = .ok (.int (-i)) μ := by
  rw [evE, ev_con]
  rfl
theorem script_eq (d : Nat) {L r : Nat} (hL : L ≤ 2) (h1 : 1 ≤ r) (h2 : r ≤ 2) {ru : Str} (hr : SOk ru) (b0 b1 : Int) {b : Int} {μ : Sto} (hm : MB b μ) (hb : b ≤ 90000) :
    ∃ v μ', (cfN P (d + 17)).call 123 [.ref 0, cs L r ru, e2 b0 b1] μ = .ok v μ' ∧ MB (b + 40) μ' ∧ (ScrA L r ru b0 b1 v ∨ ScrB L r ru b0 b1 v) := by
  rw [call_at at_law_script (d + 16) rfl]
  have lf := lfirst_eq (d + 15) L hr μ
  have s1 : evS (cfN P (d + 16)) (.par [(3, false), (4, true), (5, false)] [(.call 111 [(.idx (.var 1) (.con (.int (0)))), (.idx (.var 1) (.con (.int (2))))]), (.lst []), (.con (.int (0)))]) [some (.ref 0), some (cs L r ru), some (e2 b0 b1), none, none, none, none, none, none, none] μ = .ok .nx [some (.ref 0), some (cs L r ru), some (e2 b0 b1), some (lw (firstW L ru)), some (.own (.lv [])), some (.int 0), none, none, none, none] μ := by
    have z : lw ⟨⟨1, 0, false⟩, ⟨2, 0, false⟩, ⟨0, 0, [], lim0 L ru⟩, ⟨0, [], none, 0⟩, [], [], [], [], []⟩ = lw (firstW L ru) := rfl
    simp [lf, setSlot, nxO, z]
  obtain ⟨t, μ1, ed, ht, hm1⟩ := draw_mb (d + 14) hm (by omega) (lim := 16) (by decide) (by decide)
  show ∃ v μ', outR (evSs (cfN P (d + 16)) (_ :: _ :: _ :: []) [some (.ref 0), some (cs L r ru), some (e2 b0 b1), none, none, none, none, none, none, none] μ) = .ok v μ' ∧ MB (b + 40) μ' ∧ (ScrA L r ru b0 b1 v ∨ ScrB L r ru b0 b1 v)
  rw [st_cons, s1, seq_nx, st_cons, forr_at (v := .rg 0 t 1) (μ' := μ1) (by simp [ed, rgOf]) (wk_rgN μ1 t (by omega))]
  have run := forL_run (asn := assT (.nm 6)) (b := evSs (cfN P (d + 16)) [(.iff (.cmp .ne (.call 122 [(.var 3), (.var 1)]) (.con (.int (0)))) [(.asg (.nm 5) (.neg (.con (.int (1)))))] []), (.asg (.nm 7) (.call 121 [(.var 3), (.var 2), (.var 1)])), (.iff (.cmp .eq (.call 101 [(.var 0), (.con (.int (30)))]) (.con (.int (0)))) [(.asg (.nm 8) (.call 104 [(.var 0), (.lst [(.tup [(.con (.str "crash")), (.con (.int (2)))]), (.tup [(.con (.str "take")), (.con (.int (0)))]), (.tup [(.con (.str "hear")), (.con (.int (1))), (.con (.int (99)))]), (.lst [(.con (.str "greet")), (.con (.int (0)))]), (.con (.non)), (.tup [(.con (.str "greet")), (.con (.bl false))])])])), (.ret (some (.tup [(.bin .add (.blt .tuple [(.own 4)]) (.tup [(.var 8)])), (.neg (.con (.int (1))))])))] []), (.asg (.tp [(.nm 9), (.nm 3)]) (.call 104 [(.var 0), (.var 7)])), (.oap 4 (.var 9))])
    (N := 15) (L := (List.range t).map nat)
    (Inv := fun j env μ => MB (b + 1 + 2 * j) μ ∧ ∃ xs x6 x7 x8 x9, xs.length = j ∧ legal L r ru b0 b1 xs (firstW L ru) ∧ env = [some (.ref 0), some (cs L r ru), some (e2 b0 b1), some (lw (runW L r ru xs (firstW L ru))), some (.own (.lv (xs.map dV))), some (.int (numC L r ru xs)), x6, x7, x8, x9])
    (Q := fun v μ => MB (b + 40) μ ∧ ScrB L r ru b0 b1 v) (fun j hj x hx env μ hI => by
      obtain ⟨hm, xs, x6, x7, x8, x9, hxl, hleg, rfl⟩ := hI
      have ok := runW_ok hL h1 h2 xs 0 _ (first_ok ru hL h1 h2) hleg
      rw [Nat.zero_add] at ok
      generalize hw : runW L r ru xs (firstW L ru) = w at *
      refine ⟨[some (.ref 0), some (cs L r ru), some (e2 b0 b1), some (lw w), some (.own (.lv (xs.map dV))), some (.int (numC L r ru xs)), some x, x7, x8, x9], by simp, ?_⟩
      have gb := lbroken_eq (d + 1) ok (by omega) hr μ
      have gd := ldeeds_eq d ok (by omega) hr b0 b1 μ
      have t1 : evS (cfN P (d + 16)) (.iff (.cmp .ne (.call 122 [(.var 3), (.var 1)]) (.con (.int (0)))) [(.asg (.nm 5) (.neg (.con (.int (1)))))] []) [some (.ref 0), some (cs L r ru), some (e2 b0 b1), some (lw w), some (.own (.lv (xs.map dV))), some (.int (numC L r ru xs)), some x, x7, x8, x9] μ = .ok .nx [some (.ref 0), some (cs L r ru), some (e2 b0 b1), some (lw w), some (.own (.lv (xs.map dV))), some (.int (if faultW L r w = 0 then numC L r ru xs else -1)), some x, x7, x8, x9] μ := by
        rw [iff_at (t := !decide (faultW L r w = 0)) (by simp [gb, nat])]
        by_cases h0 : faultW L r w = 0
        · simp [h0]
        · simp [h0, neg_eq, nxO]
      have t2 : ∀ x5, evS (cfN P (d + 16)) (.asg (.nm 7) (.call 121 [(.var 3), (.var 2), (.var 1)])) [some (.ref 0), some (cs L r ru), some (e2 b0 b1), some (lw w), some (.own (.lv (xs.map dV))), x5, some x, x7, x8, x9] μ = .ok .nx [some (.ref 0), some (cs L r ru), some (e2 b0 b1), some (lw w), some (.own (.lv (xs.map dV))), x5, some x, some (.lv ((deedsD L ru b0 b1 w).map (pairV L r ru w))), x8, x9] μ := by
        intro x5
        have z : e2 b0 b1 = .tup [.int b0, .int b1] := rfl
        simp [z, gd, nxO]
      obtain ⟨i, μ2, e2d, hi, hm2⟩ := draw_mb (d + 14) hm (by omega) (lim := 30) (by decide) (by decide)
      rw [st_cons, t1, seq_nx, st_cons, t2, seq_nx, st_cons]
      by_cases hi0 : i = 0
      · -- an odd deed
        subst hi0
        obtain ⟨o, ho, μ3, eo, hm3⟩ := of_mb (d + 13) hm2 (by omega) (l := oddL) (by decide) (by decide)
        refine .inr ⟨.tup [.tup (xs.map dV ++ [o]), .int (-1)], [some (.ref 0), some (cs L r ru), some (e2 b0 b1), some (lw w), some (.own (.lv (xs.map dV))), some (.int (if faultW L r w = 0 then numC L r ru xs else -1)), some x, some (.lv ((deedsD L ru b0 b1 w).map (pairV L r ru w))), some o, x9], μ3, ?_, hm3.mono (by omega), xs, by omega, hleg, o, ho, rfl⟩
        have pl : OL.plain o = some o := by
          unfold oddL at ho
          simp only [List.mem_cons, List.not_mem_nil, or_false] at ho
          rcases ho with rfl | rfl | rfl | rfl | rfl | rfl <;> rfl
        have dl : disown o = o := by
          unfold oddL at ho
          simp only [List.mem_cons, List.not_mem_nil, or_false] at ho
          rcases ho with rfl | rfl | rfl | rfl | rfl | rfl <;> rfl
        have zl : PV.lv [.tup [.str "crash", .int 2], .tup [.str "take", .int 0], .tup [.str "hear", .int 1, .int 99], .lv [.str "greet", .int 0], .non, .tup [.str "greet", .bl false]] = .lv oddL := rfl
        have tl : bltM .tuple [.lv (xs.map dV)] μ3 = .ok (.tup (xs.map dV)) μ3 := btup_lv _ _ (by rw [List.length_map]; omega)
        have hz : xs.length + 1 ≤ 16777216 := by omega
        have s3 : evS (cfN P (d + 16)) (.iff (.cmp .eq (.call 101 [(.var 0), (.con (.int (30)))]) (.con (.int (0)))) [(.asg (.nm 8) (.call 104 [(.var 0), (.lst [(.tup [(.con (.str "crash")), (.con (.int (2)))]), (.tup [(.con (.str "take")), (.con (.int (0)))]), (.tup [(.con (.str "hear")), (.con (.int (1))), (.con (.int (99)))]), (.lst [(.con (.str "greet")), (.con (.int (0)))]), (.con (.non)), (.tup [(.con (.str "greet")), (.con (.bl false))])])])), (.ret (some (.tup [(.bin .add (.blt .tuple [(.own 4)]) (.tup [(.var 8)])), (.neg (.con (.int (1))))])))] []) [some (.ref 0), some (cs L r ru), some (e2 b0 b1), some (lw w), some (.own (.lv (xs.map dV))), some (.int (if faultW L r w = 0 then numC L r ru xs else -1)), some x, some (.lv ((deedsD L ru b0 b1 w).map (pairV L r ru w))), x8, x9] μ = .ok (.rt (.tup [.tup (xs.map dV ++ [o]), .int (-1)])) [some (.ref 0), some (cs L r ru), some (e2 b0 b1), some (lw w), some (.own (.lv (xs.map dV))), some (.int (if faultW L r w = 0 then numC L r ru xs else -1)), some x, some (.lv ((deedsD L ru b0 b1 w).map (pairV L r ru w))), some o, x9] μ3 := by
          simp [e2d, SZ, zl, eo, dl, nxO, tl, pl, add_tup, hz, neg_eq]
        rw [s3]
        rfl
      · -- one that is there
        have hlen : 1 ≤ (deedsD L ru b0 b1 w).length := by unfold deedsD; simp
        have hlen2 := deedsD_len ok ru b0 b1
        obtain ⟨v, hv, μ3, eo, hm3⟩ := of_mb (d + 13) hm2 (by omega) (l := (deedsD L ru b0 b1 w).map (pairV L r ru w)) (by rw [List.length_map]; exact hlen) (by rw [List.length_map]; omega)
        obtain ⟨y, hy, rfl⟩ := List.mem_map.mp hv
        have s3 : evS (cfN P (d + 16)) (.iff (.cmp .eq (.call 101 [(.var 0), (.con (.int (30)))]) (.con (.int (0)))) [(.asg (.nm 8) (.call 104 [(.var 0), (.lst [(.tup [(.con (.str "crash")), (.con (.int (2)))]), (.tup [(.con (.str "take")), (.con (.int (0)))]), (.tup [(.con (.str "hear")), (.con (.int (1))), (.con (.int (99)))]), (.lst [(.con (.str "greet")), (.con (.int (0)))]), (.con (.non)), (.tup [(.con (.str "greet")), (.con (.bl false))])])])), (.ret (some (.tup [(.bin .add (.blt .tuple [(.own 4)]) (.tup [(.var 8)])), (.neg (.con (.int (1))))])))] []) [some (.ref 0), some (cs L r ru), some (e2 b0 b1), some (lw w), some (.own (.lv (xs.map dV))), some (.int (if faultW L r w = 0 then numC L r ru xs else -1)), some x, some (.lv ((deedsD L ru b0 b1 w).map (pairV L r ru w))), x8, x9] μ = .ok .nx [some (.ref 0), some (cs L r ru), some (e2 b0 b1), some (lw w), some (.own (.lv (xs.map dV))), some (.int (if faultW L r w = 0 then numC L r ru xs else -1)), some x, some (.lv ((deedsD L ru b0 b1 w).map (pairV L r ru w))), x8, x9] μ2 := by
          simp [e2d, hi0]
        have dp : disown (pairV L r ru w y) = pairV L r ru w y := rfl
        have pd' : OL.plain (dV y) = some (dV y) := by cases y <;> rfl
        have s4 : evS (cfN P (d + 16)) (.asg (.tp [(.nm 9), (.nm 3)]) (.call 104 [(.var 0), (.var 7)])) [some (.ref 0), some (cs L r ru), some (e2 b0 b1), some (lw w), some (.own (.lv (xs.map dV))), some (.int (if faultW L r w = 0 then numC L r ru xs else -1)), some x, some (.lv ((deedsD L ru b0 b1 w).map (pairV L r ru w))), x8, x9] μ2 = .ok .nx [some (.ref 0), some (cs L r ru), some (e2 b0 b1), some (lw (behW L r ru y w)), some (.own (.lv (xs.map dV))), some (.int (if faultW L r w = 0 then numC L r ru xs else -1)), some x, some (.lv ((deedsD L ru b0 b1 w).map (pairV L r ru w))), x8, some (dV y)] μ3 := by
          have z : evE (cfN P (d + 16)) (.call 104 [(.var 0), (.var 7)]) [some (.ref 0), some (cs L r ru), some (e2 b0 b1), some (lw w), some (.own (.lv (xs.map dV))), some (.int (if faultW L r w = 0 then numC L r ru xs else -1)), some x, some (.lv ((deedsD L ru b0 b1 w).map (pairV L r ru w))), x8, x9] μ2 = .ok (pairV L r ru w y) μ3 := by
            simp [eo, dp]
          rw [st_asg, z]
          simp [pairV, nxO]
        rw [s3, seq_nx, st_cons, s4, seq_nx, st_cons, oap_at (acc := xs.map dV) (v := dV y) rfl (by simp [pd']) (by rw [List.length_map]; omega), seq_nx]
        refine .inl ⟨_, μ3, rfl, hm3.mono (by omega), xs ++ [y], some x, some (.lv ((deedsD L ru b0 b1 w).map (pairV L r ru w))), x8, some (dV y), by simp [hxl], legal_snoc xs _ hleg (by rw [hw]; exact hy), ?_⟩
        rw [runW_snoc, hw, List.map_append]
        have zn : numC L r ru (xs ++ [y]) = if faultW L r w = 0 then numC L r ru xs else -1 := by
          unfold numC
          rw [clean_snoc, hw]
          by_cases h0 : faultW L r w = 0 <;> simp [h0]
        rw [zn]
        rfl) ((List.range t).map nat) 0 [some (.ref 0), some (cs L r ru), some (e2 b0 b1), some (lw (firstW L ru)), some (.own (.lv [])), some (.int 0), none, none, none, none] μ1 (fun x hx => hx) (by simp; omega) ⟨hm1.mono (by omega), [], none, none, none, none, rfl, trivial, rfl⟩
  rcases run with ⟨env', μ', e, hm', xs, x6, x7, x8, x9, hxl, hleg, rfl⟩ | ⟨v, env', μ', e, hm', hB⟩
  · have hlen : xs.length ≤ 15 := by rw [hxl]; simp; omega
    have ok := runW_ok hL h1 h2 xs 0 _ (first_ok ru hL h1 h2) hleg
    have gb := lbroken_eq (d + 1) ok (by omega) hr μ'
    have tl : bltM .tuple [.lv (xs.map dV)] μ' = .ok (.tup (xs.map dV)) μ' := btup_lv _ _ (by rw [List.length_map]; omega)
    refine ⟨_, μ', ?_, hm'.mono (by simp; omega), .inl ⟨xs, hlen, hleg, rfl⟩⟩
    rw [e, seq_nx]
    unfold numC
    cases hc : clean L r ru xs (firstW L ru) <;> simp [tl, gb, SZ, nat]
  · exact ⟨v, μ', by rw [e]; rfl, hm', .inr hB⟩
end M76
end
section
set_option Elab.async false
set_option linter.all false
set_option maxRecDepth 100000
set_option maxHeartbeats 4000000
/-! the small worlds, part z: the law of drawn scripts. -/
namespace M76
open PySem OL
theorem at_law : P.funs[124]? = some f124 := fun_at defs_eq _ rfl
theorem at_law_like : P.funs[103]? = some f103 := fun_at defs_eq _ rfl
theorem lfault_le (a b : Lk) (x y su : List Pr) : lfault a b x y su ≤ 5 := by
  unfold lfault
  cases k1 a y <;> cases k2 a y <;> cases k1 b x <;> cases k2 b x <;> cases k3 a b <;> cases k3 b a <;> cases k4 su <;> cases k5 x y <;> cases k5 y x <;> decide
theorem faultW_le (L r : Nat) (w : W) : faultW L r w ≤ 10 := by
  have z := lfault_le w.l0 w.l1 (xs0 w) (xs1 w) (xsu w)
  unfold faultW
  generalize lfault w.l0 w.l1 (xs0 w) (xs1 w) (xsu w) = n at *
  by_cases hn : n = 0
  · rw [if_neg (by simpa using hn)]
    cases t6 L w.i <;> cases b7 r w.i <;> cases crossB w.l0 w.l1 <;> cases b8 L w.o w.i <;> cases b9 w.o w.i <;> cases b10 w <;> decide
  · rw [if_pos hn]
    omega
theorem F_like (μ : Sto) : [(true, true), (true, false), (false, true), (false, false)].map (fun p : Bool × Bool => (cfN P 12).call 103 [.bl p.1, .bl p.2] μ) = [(true, true), (true, false), (false, true), (false, false)].map fun p : Bool × Bool => Res.ok (.bl (p.1 == p.2)) μ := by kernel_rfl
theorem like_eq (x y : Bool) (μ : Sto) {n : Nat} (hn : 12 ≤ n) : (cfN P n).call 103 [.bl x, .bl y] μ = .ok (.bl (x == y)) μ := call_deeper (mapAt (F_like μ) (show (x, y) ∈ _ by cases x <;> cases y <;> decide)) (fun z => by cases z) hn
def rulesV : List PV := rulesL.map PV.str
def boundsV : List PV := boundsL.map fun b => e2 b.1 b.2
/-- one sentence asked -/
theorem ask_eq (d : Nat) {L r : Nat} (hL : L ≤ 2) (h1 : 1 ≤ r) (h2 : r ≤ 2) {ru : Str} (hru : ru ∈ rulesL) {b0 b1 : Int} (hb : (b0, b1) ∈ boundsL) {v : PV} (hv : ScrA L r ru b0 b1 v ∨ ScrB L r ru b0 b1 v) {ds : List PV} {num : Int} (e : v = .tup [.tup ds, .int num]) (s : Int) (hs1 : 1 ≤ s) (hs2 : s ≤ 10) (μ : Sto) :
    ∃ x, (cfN P (d + 19)).call 98 [.str ru, nat L, nat r, e2 b0 b1, .tup ds, .int s] μ = .ok (.bl x) μ ∧ (x == decide (s = num)) = true := by
  have hr := rule_so hru
  rcases hv with ⟨xs, hx, hl, rfl⟩ | ⟨xs, hx, hl, o, ho, rfl⟩
  · injection e with e
    injection e with e1 e2
    injection e1 with e1
    injection e2 with e2
    injection e2 with e2
    subst e1
    refine ⟨_, breaking_eq d hL h1 h2 hr b0 b1 s μ hru hb hs1 hs2 xs (by omega) hl, ?_⟩
    rw [← e2]
    cases hc : clean L r ru xs (firstW L ru) with
    | false =>
      simp only [Bool.false_and, Bool.false_eq_true, if_false]
      rw [decide_eq_false (by omega)]
      rfl
    | true =>
      simp only [Bool.true_and, if_true]
      rw [show decide (s = (faultW L r (runW L r ru xs (firstW L ru)) : Int)) = decide ((faultW L r (runW L r ru xs (firstW L ru)) : Int) = s) from decide_eq_decide.mpr eq_comm]
      simp
  · injection e with e
    injection e with e1 e2
    injection e1 with e1
    injection e2 with e2
    injection e2 with e2
    subst e1
    refine ⟨_, breaking_odd d hL h1 h2 hr b0 b1 s μ hru hb hs1 hs2 xs (by omega) hl ho, ?_⟩
    rw [← e2, decide_eq_false (by omega)]
    rfl
theorem num_le {L r : Nat} {ru : Str} {b0 b1 : Int} {v : PV} (hv : ScrA L r ru b0 b1 v ∨ ScrB L r ru b0 b1 v) : ∃ ds num, v = .tup [.tup ds, .int num] ∧ num ≤ 10 := by
  rcases hv with ⟨xs, hx, hl, rfl⟩ | ⟨xs, hx, hl, o, ho, rfl⟩
  · refine ⟨_, _, rfl, ?_⟩
    have := faultW_le L r (runW L r ru xs (firstW L ru))
    split <;> omega
  · exact ⟨_, _, rfl, by decide⟩
theorem law_runs : Runs md.prog 30 124 63 := by
  intro ns hns
  show ∃ μ, (cfN P (29 + 1)).call 124 [.sc (ns.map .int)] [] = .ok (.bl true) μ
  rw [call_at at_law 29 rfl]
  obtain ⟨μ0, e0, hm0⟩ := Dr.begun_eq 27 ns hns
  have hm0 : MB 0 μ0 := ⟨0, Int.le_refl 0, hm0⟩
  have s1 : evS (cfN P 29) (.asg (.nm 1) (.call 102 [(.var 0)])) [some (.sc (ns.map .int)), none, none, none, none, none, none, none, none] [] = .ok .nx [some (.sc (ns.map .int)), some (.ref 0), none, none, none, none, none, none, none] μ0 := by
    simp [e0, nxO]
  obtain ⟨t, ht, et⟩ : ∃ t : Nat, t ≤ 12 ∧ (4 : Int) + min (ns.length : Int) 8 = (t : Int) := ⟨4 + min ns.length 8, by omega, by omega⟩
  show ∃ μ, outR (evSs (cfN P 29) (_ :: _ :: _ :: []) [some (.sc (ns.map .int)), none, none, none, none, none, none, none, none] []) = .ok (.bl true) μ
  have ls : bltM .len [.sc (ns.map .int)] μ0 = .ok (.int (ns.length : Nat)) μ0 := by
    show Res.ok (PV.int ((ns.map PV.int).length : Nat)) _ = _
    rw [List.length_map]
  rw [st_cons, s1, seq_nx, st_cons, forr_at (v := .rg 0 t 1) (μ' := μ0) (by simp [ls, bmin2, rgOf, et]) (wk_rgN μ0 t (by omega))]
  have run := forL_run (asn := assT (.nm 2)) (b := evSs (cfN P 29) [(.asg (.nm 3) (.call 104 [(.var 1), (.lst [(.con (.str "to")), (.con (.str "peer")), (.con (.str "older")), (.con (.str "count")), (.con (.str "bare")), (.con (.str "limit")), (.con (.str "have")), (.con (.str "end"))])])), (.par [(4, false), (5, false)] [(.tup [(.call 101 [(.var 1), (.con (.int (3)))]), (.bin .add (.con (.int (1))) (.call 101 [(.var 1), (.con (.int (2)))])), (.var 3)]), (.call 104 [(.var 1), (.lst [(.tup [(.con (.int (1))), (.con (.int (1)))]), (.tup [(.con (.int (1))), (.con (.int (2)))]), (.tup [(.con (.int (2))), (.con (.int (1)))]), (.tup [(.con (.int (2))), (.con (.int (2)))])])])]), (.asg (.tp [(.nm 6), (.nm 7)]) (.call 123 [(.var 1), (.var 4), (.var 5)])), (.forr (.nm 8) (.lst [(.bin .add (.con (.int (1))) (.call 101 [(.var 1), (.con (.int (10)))])), (.blt .max [(.var 7), (.con (.int (1)))])]) [(.iff (.not (.call 103 [(.call 98 [(.var 3), (.idx (.var 4) (.con (.int (0)))), (.idx (.var 4) (.con (.int (1)))), (.var 5), (.var 6), (.var 8)]), (.cmp .eq (.var 8) (.var 7))])) [(.ret (some (.con (.bl false))))] [])])])
    (N := 12) (L := (List.range t).map nat)
    (Inv := fun j env μ => MB (100 * j) μ ∧ ∃ x2 x3 x4 x5 x6 x7 x8, env = [some (.sc (ns.map .int)), some (.ref 0), x2, x3, x4, x5, x6, x7, x8])
    (Q := fun v μ => False) (fun j hj x hx env μ hI => by
      obtain ⟨hm, x2, x3, x4, x5, x6, x7, x8, rfl⟩ := hI
      refine ⟨[some (.sc (ns.map .int)), some (.ref 0), some x, x3, x4, x5, x6, x7, x8], by simp, .inl ?_⟩
      obtain ⟨rv, hrv, μ1, f1, hm1⟩ := of_mb 26 hm (by omega) (l := rulesV) (by decide) (by decide)
      obtain ⟨ru, hru, rfl⟩ := List.mem_map.mp hrv
      obtain ⟨L, μ2, f2, hL, hm2⟩ := draw_mb 27 hm1 (by omega) (lim := 3) (by decide) (by decide)
      obtain ⟨r', μ3, f3, hr', hm3⟩ := draw_mb 27 hm2 (by omega) (lim := 2) (by decide) (by decide)
      obtain ⟨bv, hbv, μ4, f4, hm4⟩ := of_mb 26 hm3 (by omega) (l := boundsV) (by decide) (by decide)
      obtain ⟨⟨b0, b1⟩, hb, rfl⟩ := List.mem_map.mp hbv
      have hL2 : L ≤ 2 := by omega
      have hr1 : 1 ≤ 1 + r' := by omega
      have hr2 : 1 + r' ≤ 2 := by omega
      have hr := rule_so hru
      obtain ⟨v, μ5, f5, hm5, hv⟩ := script_eq 12 hL2 hr1 hr2 hr b0 b1 hm4 (by omega)
      obtain ⟨ds, num, rfl, hnum⟩ := num_le hv
      obtain ⟨s, μ6, f6, hs, hm6⟩ := draw_mb 27 hm5 (by omega) (lim := 10) (by decide) (by decide)
      have t1 : evS (cfN P 29) (.asg (.nm 3) (.call 104 [(.var 1), (.lst [(.con (.str "to")), (.con (.str "peer")), (.con (.str "older")), (.con (.str "count")), (.con (.str "bare")), (.con (.str "limit")), (.con (.str "have")), (.con (.str "end"))])])) [some (.sc (ns.map .int)), some (.ref 0), some x, x3, x4, x5, x6, x7, x8] μ = .ok .nx [some (.sc (ns.map .int)), some (.ref 0), some x, some (.str ru), x4, x5, x6, x7, x8] μ1 := by
        have z : PV.lv [.str "to", .str "peer", .str "older", .str "count", .str "bare", .str "limit", .str "have", .str "end"] = .lv rulesV := rfl
        simp [SZ, z, f1, nxO]
      have t2 : evS (cfN P 29) (.par [(4, false), (5, false)] [(.tup [(.call 101 [(.var 1), (.con (.int (3)))]), (.bin .add (.con (.int (1))) (.call 101 [(.var 1), (.con (.int (2)))])), (.var 3)]), (.call 104 [(.var 1), (.lst [(.tup [(.con (.int (1))), (.con (.int (1)))]), (.tup [(.con (.int (1))), (.con (.int (2)))]), (.tup [(.con (.int (2))), (.con (.int (1)))]), (.tup [(.con (.int (2))), (.con (.int (2)))])])])]) [some (.sc (ns.map .int)), some (.ref 0), some x, some (.str ru), x4, x5, x6, x7, x8] μ1 = .ok .nx [some (.sc (ns.map .int)), some (.ref 0), some x, some (.str ru), some (cs L (1 + r') ru), some (e2 b0 b1), x6, x7, x8] μ4 := by
        have z : PV.lv [.tup [.int 1, .int 1], .tup [.int 1, .int 2], .tup [.int 2, .int 1], .tup [.int 2, .int 2]] = .lv boundsV := rfl
        have zc : PV.tup [.int (L : Int), .int (1 + (r' : Int)), .str ru] = cs L (1 + r') ru := rfl
        have de : disown (e2 b0 b1) = e2 b0 b1 := rfl
        simp [SZ, z, f2, f3, f4, setSlot, nxO, zc, de]
      have t3 : evS (cfN P 29) (.asg (.tp [(.nm 6), (.nm 7)]) (.call 123 [(.var 1), (.var 4), (.var 5)])) [some (.sc (ns.map .int)), some (.ref 0), some x, some (.str ru), some (cs L (1 + r') ru), some (e2 b0 b1), x6, x7, x8] μ4 = .ok .nx [some (.sc (ns.map .int)), some (.ref 0), some x, some (.str ru), some (cs L (1 + r') ru), some (e2 b0 b1), some (.tup ds), some (.int num), x8] μ5 := by
        have pe : OL.plain (e2 b0 b1) = some (e2 b0 b1) := rfl
        simp [pe, f5, nxO]
      have body : ∀ (q : Int) (hq1 : 1 ≤ q) (hq2 : q ≤ 10) (μ : Sto), evSs (cfN P 29) [(.iff (.not (.call 103 [(.call 98 [(.var 3), (.idx (.var 4) (.con (.int (0)))), (.idx (.var 4) (.con (.int (1)))), (.var 5), (.var 6), (.var 8)]), (.cmp .eq (.var 8) (.var 7))])) [(.ret (some (.con (.bl false))))] [])] [some (.sc (ns.map .int)), some (.ref 0), some x, some (.str ru), some (cs L (1 + r') ru), some (e2 b0 b1), some (.tup ds), some (.int num), some (.int q)] μ = .ok .nx [some (.sc (ns.map .int)), some (.ref 0), some x, some (.str ru), some (cs L (1 + r') ru), some (e2 b0 b1), some (.tup ds), some (.int num), some (.int q)] μ := by
        intro q hq1 hq2 μ
        obtain ⟨y, ea, eb⟩ := ask_eq 10 hL2 hr1 hr2 hru hb hv rfl q hq1 hq2 μ
        have pe : OL.plain (e2 b0 b1) = some (e2 b0 b1) := rfl
        have el := like_eq y (decide (q = num)) μ (n := 29) (by omega)
        rw [eb] at el
        rw [st_cons, iff_con (t := false) (by simp [pe, ea, el]), if_neg (by simp), seq_nx, st_nil]
      have mx : ∃ q2 : Int, 1 ≤ q2 ∧ q2 ≤ 10 ∧ ∀ μ, bltM .max [.int num, .int 1] μ = .ok (.int q2) μ := ⟨max num 1, by omega, by omega, fun μ => bmax2 num 1 μ⟩
      obtain ⟨q2, hq1, hq2, mx⟩ := mx
      refine ⟨_, μ6, ?_, hm6.mono (by omega), some x, some (.str ru), some (cs L (1 + r') ru), some (e2 b0 b1), some (.tup ds), some (.int num), some (.int q2), rfl⟩
      rw [st_cons, t1, seq_nx, st_cons, t2, seq_nx, st_cons, t3, seq_nx, st_cons, forr_at (v := .lv [.int (1 + (s : Int)), .int q2]) (μ' := μ6) (by simp [f6, mx, SZ]) (wk_lv μ6 _),
        forL_step (env1 := [some (.sc (ns.map .int)), some (.ref 0), some x, some (.str ru), some (cs L (1 + r') ru), some (e2 b0 b1), some (.tup ds), some (.int num), some (.int (1 + (s : Int)))]) (by simp) (body (1 + s) (by omega) (by omega) μ6),
        forL_step (env1 := [some (.sc (ns.map .int)), some (.ref 0), some x, some (.str ru), some (cs L (1 + r') ru), some (e2 b0 b1), some (.tup ds), some (.int num), some (.int q2)]) (by simp) (body q2 hq1 hq2 μ6), forL_nil, seq_nx, st_nil]) ((List.range t).map nat) 0 [some (.sc (ns.map .int)), some (.ref 0), none, none, none, none, none, none, none] μ0 (fun x hx => hx) (by simp; omega) ⟨hm0.mono (by omega), none, none, none, none, none, none, none, rfl⟩
  rcases run with ⟨env', μ', e, hm', x2, x3, x4, x5, x6, x7, x8, rfl⟩ | ⟨v, env', μ', e, hF⟩
  · refine ⟨μ', ?_⟩
    rw [e, seq_nx]
    simp
  · exact hF.elim
end M76
end
set_option maxRecDepth 100000 in
set_option maxHeartbeats 0 in
theorem PySem.Challenge.cw_prefixwire_k76_whole_scripts_judged_holds : PySem.Challenge.rw_prefixwire_k76_whole_scripts_judged.Holds := by
  exact M76.holds_of M76.law_runs
