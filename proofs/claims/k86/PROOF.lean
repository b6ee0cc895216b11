import PyProof.Rows.All
import HandS.ForMost
import HandS.ForExc
import HandS.Wide
import HandS.TupAny
import HandS.SortInts
import HandS.IsInst
import HandS.Text
import HandS.Flow
import HandS.Conv
import HandS.More
import HandS.RaiseMore
import HandS.Deep
import HandS.CallSlots
import HandS.OwnEq
import KE.KCallOwn
import HandS.SuiteRaise
import HandS.HeadWalk
import HandS.Iter
import HandS.Comp
import HandS.List
import KE.KExcSuper
import HandS.RaiseFrom
import HandS.Small
import HandS.ExcIs
import HandS.ExcField
import HandS.HeadHook4
import HandS.Nested
import KE.KSuper
import HandS.HeadEnd
import HandS.Head0
import HandS.Head1
import HandS.Head2
import PySem.Challenge.RW_lotsintrees_k86_whole_labels_read_back
import Wide.All
import OpenK.AllK
import Wide.FinOn
set_option Elab.async false
set_option linter.all false
set_option maxRecDepth 100000
section
set_option maxHeartbeats 4000000
namespace Lit
open PySem L2
/-- data without addresses; own n: the n-th shared cell; scr: the script -/
inductive D where
  | non | bl (b : Bool) | int (i : Int) | str (x : Str)
  | lst (xs : List D) | tup (xs : List D)
  | ins (c : Nat) (fs : List D)
  | own (n : Nat)
  | scr (ns : List Int)
structure Tb where
  K : PySem.W.Frag
  cad : Nat → Addr
  cfl : Nat → List Str
  fad : Nat → Addr
  xad : Nat → Addr
  xfl : Nat → List Str
inductive Bi where
  | len | int | str | list | tuple | sorted | max | min | sum | all | any | bool
  deriving DecidableEq
inductive Me where
  | split | join | append | popAt | pop | insert | index
  deriving DecidableEq
inductive Ty where
  | int | bool | str | tuple | list | cls (c : Nat)
inductive ItK where
  | lst | tup | str | rng1 | rng2
  deriving DecidableEq
mutual
inductive E where
  | v (i : Nat) | k (d : D) | g (x : Str)
  | bin (o : Operator) (a b : E)
  | cmp (o : CmpOp) (a b : E)
  | chn (o p : CmpOp) (a b c : E)
  | and (es : Es) | or (es : Es) | not (a : E) | neg (a : E)
  | ife (c a b : E)
  | lst (es : Es) | tup (es : Es) | cell (es : Es)
  | ix (a b : E)
  | sl (a lo hi : E)
  | call (f : Nat) (es : Es)
  | bi (b : Bi) (a : E)
  | lrng (a : E)
  | me (m : Me) (o : E) (es : Es)
  | mu (m : Me) (o : E) (es : Es)
  | fld (o : E) (f : Str)
  | con (o : E) (f : Str)
  | inv (o : E) (m : Str) (es : Es)
  | mk (c : Nat) (es : Es)
  | sto (f : Nat) (a : E)
  | isi (a : E) (t : Ty)
  | lc (i : Nat) (k : ItK) (a b : E) (cond : Es) (el : E)
  | sup (c : Nat) (m : Str) (es : Es)
  | no
inductive Es where
  | nil | cons (e : E) (es : Es)
end
/-- what a clause hands back: constants, fields of the error -/
inductive HI where
  | c (d : D) | f (x : Str)
/-- a class that isinstance asks of the error: an own one, ValueError -/
inductive XTy where
  | c (n : Nat) | ve
mutual
inductive St where
  | asg (i : Nat) (e : E)
  | asgT (is : List Nat) (e : E)
  | asgP (i j : Nat) (es : Es)
  | setix (o i e : E)
  | aug (i : Nat) (o : Operator) (e : E)
  | setf (o : E) (f : Str) (e : E)
  | ex (e : E)
  | ite (c : E) (a b : Sts)
  | for_ (i : Nat) (k : ItK) (a b : E) (body : Sts)
  | whl (n : Nat) (c : E) (body : Sts)
  | ret (e : E) | ret0
  | raise (c : Nat) (es : Es)
  | tryR (body : Sts) (h c : Nat) (es : Es)
  | tryH (body : Sts) (h i : Nat) (cl : List (List (Bool × XTy) × List HI)) (last : List HI)
  | pass | brk | cont | dead
inductive Sts where
  | nil | cons (s : St) (ss : Sts)
end
def bnm : List Str := ["len", "int", "str", "list", "tuple", "sorted", "max", "min", "sum", "all", "any", "bool", "range", "isinstance"]
end Lit
namespace PySem
namespace XI
open PySem.W PySem.Calls PyProof.Rows PySem.HandSPX
abbrev veL : List Value := [.type "ValueError", .type "Exception", .type "BaseException", .type "object"]
def bodyB (fld pn : Str) (body : List Stmt) : Bool := match body with
  | [.Expr (.Call (.Attribute (.Call (.Name sn _) [] [] _) inm a3) [.Constant (.str _) _ _] [] a5) _, .Assign [.Attribute (.Name slf _) f2 _] (.Name p2 _) _] =>
    decide (sn = "super") && decide (inm = "__init__") && (a3.endLine == a5.line) && decide (slf = "self") && decide (f2 = fld) && decide (p2 = pn)
  | _ => false
def scopeB (pn : Str) (sc : Scope) : Bool := decide (sc.kind = .function) && !sc.isCoroutine && !sc.isGenerator && (sc.names.all fun y => decide (y.2 ≠ .cell)) &&
  decide (sc.names.lookup ("self" : Str) = some .local) && decide (sc.names.lookup pn = some .local) && decide (sc.names.lookup ("super" : Str) = some .globalImplicit) && decide (sc.names.lookup ("__class__" : Str) = some .free)
def codeB (Pm : Program) (K : Frag) (cda : Addr) : Bool := match K.lookup cda with
  | some ⟨_, _, .fields vs, _⟩ => (match (vs : Array Value)[2]? with
    | some (Value.str file _) => (Pm.main.file : Str) == file
    | _ => false)
  | _ => false
def cellB (K : Frag) (cc C : Addr) : Bool := match K.lookup cc with
  | some ⟨_, _, .cell (some (.ref C')), _⟩ => decide (C' = C)
  | _ => false
def fnB (Pm : Program) (K : Frag) (C : Addr) (fld : Str) (fd : FuncData) : Bool := match fd with
  | ⟨name, qual, ⟨[], [a1, a2], none, [], _, none, _⟩, .stmts body, sc, gl, [(cn, cc)], .none, _, _, _, _, .ref cda, _, blt⟩ =>
    decide (name = "__init__") && decide (a1.arg = ("self" : Str)) && !decide (("self" : Str) = a2.arg) && !(a2.arg == ("__debug__" : Str)) && bodyB fld a2.arg body && scopeB a2.arg sc && decide (gl = mainGlobals) && decide (cn = "__class__") && decide (blt = builtinsNs) &&
      codeIn K (.ref cda) qual && cellB K cc C && codeB Pm K cda
  | _ => false
def initB (Pm : Program) (K : Frag) (C fI : Addr) (fld : Str) : Bool := match K.lookup fI with
  | some ⟨_, _, .func fd, _⟩ => fnB Pm K C fld fd
  | _ => false
end XI
end PySem
namespace Lit
open PySem PySem.Spec L2 PyProof.Rows He
structure DT where
  d : DefD
  N : List Str
  np : Nat
  ir : Sts
  cln : Bool := false
  /-- says super(), in the class of that row -/
  sup : Option Nat := none
structure CT where
  nm : Str
  fs : List Str := []
  ms : List (Str × Nat) := []
  ini : Option Nat := none
  cs : List (Str × D) := []
  sup : List Nat := []
  /-- what super() finds, said in the class of that row -/
  sps : List ((Nat × Str) × Nat) := []
structure XT where
  nm : Str
  fs : List Str := []
  ini : Bool := false
  sup : List Nat := []
structure Tbl where
  ds : List DT
  cl : List CT
  xs : List XT
  gl : List (Str × D)
def tbOf (tb : Tbl) (K : PySem.W.Frag) : Tb where
  K := K
  cad := fun c => match tb.cl[c]? with
    | some t => ga K t.nm
    | none => 0
  cfl := fun c => match tb.cl[c]? with
    | some t => t.fs
    | none => []
  fad := fun f => match tb.ds[f]? with
    | some t => fAd K t.d.at_
    | none => 0
  xad := fun c => match tb.xs[c]? with
    | some t => ga K t.nm
    | none => 0
  xfl := fun c => match tb.xs[c]? with
    | some t => t.fs
    | none => []
def flatDV : D → Option V
  | .non => some .non
  | .bl b => some (.bl b)
  | .int i => some (.int i)
  | .str x => some (.str x)
  | _ => none
def glbB (K : PySem.W.Frag) (p : Str × D) : Bool := match flatDV p.2, PySem.W.nsIn K mainGlobals p.1 with
  | some v, some (some u) => relB v u
  | _, _ => false
def conB' (K : PySem.W.Frag) (C : Addr) (p : Str × D) : Bool := match flatDV p.2, PySem.W.findIn K (.ref C) p.1 with
  | some v, some (some u) => relB v u && eqO (PySem.W.specialIn K u "__get__") (some none) && !(PySem.W.copiedNames.contains p.1)
  | _, _ => false
def kibN : List String := ["int", "bool", "str", "tuple", "list"]
def fadT (tb : Tbl) (K : PySem.W.Frag) (f : Nat) : Addr := (tbOf tb K).fad f
def clsB (tb : Tbl) (K : PySem.W.Frag) (t : CT) : Bool :=
  (Fa.cls t.nm).ok K && (Fa.glo t.nm).ok K && (t.fs.all fun f => (Fa.noat t.nm f).ok K) &&
  (t.ms.all fun p => (Fa.meth t.nm p.1).ok K && decide (ma K (ga K t.nm) p.1 = fadT tb K p.2) && !(t.fs.contains p.1) && decide (p.2 < tb.ds.length)) &&
  (match t.ini with
    | some f => (Fa.mkr t.nm).ok K && decide (ma K (ga K t.nm) "__init__" = fadT tb K f)
    | none => true) &&
  (t.cs.all (conB' K (ga K t.nm))) &&
  eqO (PySem.W.findIn K (.ref (ga K t.nm)) "__class__") (some (some (.builtin "object.__class__"))) && decide (PySem.W.mroIn K (ga K t.nm) (.type "object") = some true) &&
  (kibN.all fun n => decide (PySem.W.kitOne K (.ref (ga K t.nm)) (.type n) = some false))
def facB (tb : Tbl) (K : PySem.W.Frag) : Bool :=
  (tb.cl.all (clsB tb K)) && (tb.gl.all (glbB K)) && (bnm.all fun x => (Fa.free x).ok K) &&
  (tb.ds.all fun t => match t.d.at_.2 with
    | none => (Fa.glo t.d.at_.1).ok K
    | some _ => true) &&
  eqO (PySem.W.specialIn K (.builtin "object.__class__") "__get__") (some (some (.builtin "getset_descriptor.__get__"))) && decide (PySem.W.takesIn K (.builtin "object.__class__") = some true) &&
  (tb.cl.all fun s => (List.range tb.cl.length).all fun d => decide (PySem.W.kitOne K (.ref (ga K s.nm)) (.ref ((tbOf tb K).cad d)) = some (s.sup.contains d)))
def iniB (Pm : Program) (K : PySem.W.Frag) (C : Addr) (fld : Str) : Bool :=
  eqO (PySem.W.findIn K (.ref C) "__setattr__") (some (some (.builtin "object.__setattr__"))) && eqO (PySem.W.findIn K (.ref C) "__init__") (some (some (.ref (ma K C "__init__")))) && decide (PySem.W.typeIn K (.ref (ma K C "__init__")) = some (.type "function")) &&
  decide (PySem.W.subIn K (.ref C) (.type "ValueError") = some true) && eqO (PySem.W.ks_superIn K C C "__init__") (some (some (.builtin "ValueError.__init__"))) && decide (PySem.W.mroIn K C (.ref C) = some true) && PySem.W.excInitIn K C PySem.XI.veL "ValueError.__new__" && PySem.XI.initB Pm K C (ma K C "__init__") fld
def errB (Pm : Program) (K : PySem.W.Frag) (t : XT) : Bool :=
  (Fa.glo t.nm).ok K && eqO (PySem.W.findIn K (.ref (ga K t.nm)) "__getattribute__") (some (some (.builtin "BaseException.__getattribute__"))) && eqO (PySem.W.findIn K (.ref (ga K t.nm)) "__getattr__") (some none) &&
  decide (PySem.W.subIn K (.ref (ga K t.nm)) (.type "BaseException") = some true) && decide (PySem.W.typeIn K (.ref (ga K t.nm)) = some (.type "type")) && PySem.W.hasDictIn K (ga K t.nm) && PySem.W.keepIn K (.ref (ga K t.nm)) &&
  eqO (PySem.W.findIn K (.ref (ga K t.nm)) "__class__") (some (some (.builtin "object.__class__"))) && decide (PySem.W.mroIn K (ga K t.nm) (.type "object") = some true) && decide (PySem.W.kitOne K (.ref (ga K t.nm)) (.type "ValueError") = some true) &&
  (t.fs.all fun f => eqO (PySem.W.findIn K (.ref (ga K t.nm)) f) (some none)) &&
  (match t.ini, t.fs with
    | true, [fld] => iniB Pm K (ga K t.nm) fld
    | false, [] => PySem.W.excIn K (ga K t.nm) PySem.XI.veL "ValueError.__new__"
    | _, _ => false)
def facX (Pm : Program) (tb : Tbl) (K : PySem.W.Frag) : Bool :=
  (tb.xs.all (errB Pm K)) && (Fa.free "super").ok K && (Fa.free "ValueError").ok K && (Fa.free "isinstance").ok K && eqO (PySem.W.nsIn K cStatics "thirdparty.any") (some none) && !(Pm.main.scope.names.lookup ("super" : Str)).isSome &&
  eqO (PySem.W.specialIn K (.builtin "object.__class__") "__get__") (some (some (.builtin "getset_descriptor.__get__"))) && decide (PySem.W.takesIn K (.builtin "object.__class__") = some true) &&
  (tb.xs.all fun s => (List.range tb.xs.length).all fun d => decide (PySem.W.exmOne K (.ref (ga K s.nm)) (.ref ((tbOf tb K).xad d)) = some (s.sup.contains d)) && decide (PySem.W.kitOne K (.ref (ga K s.nm)) (.ref ((tbOf tb K).xad d)) = some (s.sup.contains d)))
def spsB (tb : Tbl) (K : PySem.W.Frag) : Bool := tb.cl.all fun t => t.sps.all fun p => decide (p.2 < tb.ds.length) && (PySem.W.clsIn K ((tbOf tb K).cad p.1.1)).isSome && decide (PySem.W.mroIn K (ga K t.nm) (.ref ((tbOf tb K).cad p.1.1)) = some true) &&
  eqO (PySem.W.ks_superIn K (ga K t.nm) ((tbOf tb K).cad p.1.1) p.1.2) (some (some (.ref (fadT tb K p.2)))) && decide (PySem.W.typeIn K (.ref (fadT tb K p.2)) = some (.type "function")) && PySem.W.fnIn K (fadT tb K p.2) && !(p.1.2 == ("__class__" : Str))
/-- what is seen of such a def -/
abbrev FnS : Type := Option (Str × Str × Arguments × FuncBody × Scope × Addr × List Str × Addr)
def fnS (K : PySem.W.Frag) (p : Str × Option Str) : FnS := (fnW K p).map fun q => (q.1, q.2.1, q.2.2.1, q.2.2.2.1, q.2.2.2.2.1, q.2.2.2.2.2.1, q.2.2.2.2.2.2.1.map (·.1), q.2.2.2.2.2.2.2)
def valS (d : DefD) : FnS := some (d.name, d.qual, d.params, .stmts d.body, d.scope, mainGlobals, ["__class__"], builtinsNs)
def noneV : Value → Bool
  | .none => true
  | _ => false
def supB (Pm : Program) (tb : Tbl) (K : PySem.W.Frag) (t : DT) : Bool := match t.sup with
  | none => true
  | some c0 => PySem.W.keepIn K (.ref (fAd K t.d.at_)) && (match K.lookup (fAd K t.d.at_) with
    | some ⟨_, _, .func fd, _⟩ => PySem.W.codeIn K fd.code t.d.qual && noneV fd.defaults && (match fd.code, fd.closure with
      | .ref cda, [(_, cc)] => PySem.XI.codeB Pm K cda && PySem.XI.cellB K cc ((tbOf tb K).cad c0)
      | _, _ => false)
    | _ => false)
/-- what an object names, captured cells too -/
def refsL (o : Obj) : List Addr := refsO o ++ match o.data with
  | .func fd => fd.closure.map (·.2)
  | _ => []
def growL (g : Addr → Option Obj) (as : List Addr) : List Addr := (as ++ as.flatMap fun a => match g a with
  | some o => refsL o
  | none => []).eraseDups
def asL (g : Addr → Option Obj) : Nat → List Addr
  | 0 => [mainGlobals, cStatics]
  | n + 1 => growL g (asL g n)
abbrev AlL : Type := He.AlD × List FnS × Bool
def atS (sn : List DefD) : List (Str × Option Str) := sn.map DefD.at_
def obsL (n : Nat) (fn : List DefD) (sn : List (Str × Option Str)) (ex : PySem.W.Frag → Bool) (g : Addr → Option Obj) : AlL := (obsD [] fn (frG g (asL g n)), sn.map (fnS (frG g (asL g n))), ex (frG g (asL g n)))
def hookL (n : Nat) (fn sn : List DefD) (ex : PySem.W.Frag → Bool) : PySem.W.Hook where
  α := AlL
  obs := fun s => obsL n fn (atS sn) ex s.heap.get?
  val := fun _ => (valD fn, sn.map valS, true)
  says := fun w h => ∃ K : PySem.W.Frag, K.In h ∧ SaysD [] fn K ∧ (atS sn).map (fnS K) = sn.map valS ∧ ex K = true
  of := fun _ _ e => ⟨_, frG_in, congrArg (fun z : AlL => z.1) e, congrArg (fun z : AlL => z.2.1) e, congrArg (fun z : AlL => z.2.2) e⟩
  keeps := fun _ _ _ ⟨K, hK, c⟩ k => ⟨K, PySem.W.Frag.In.keeps hK k, c⟩
def exT (Pm : Program) (tb : Tbl) (K : PySem.W.Frag) : Bool := facB tb K && facX Pm tb K && spsB tb K && tb.ds.all (supB Pm tb K)
def dsN (tb : Tbl) : List DefD := (tb.ds.filter fun t => t.sup.isNone).map (·.d)
def dsS (tb : Tbl) : List DefD := (tb.ds.filter fun t => t.sup.isSome).map (·.d)
abbrev hkT (Pm : Program) (tb : Tbl) : PySem.W.Hook := hookL 5 (dsN tb) (dsS tb) (exT Pm tb)
def obT (Pm : Program) (tb : Tbl) (s : PySem.W.SharedT) : AlL := obsL 5 (dsN tb) (atS (dsS tb)) (exT Pm tb) (HandSHeadRun.getT s)
end Lit
end
section
set_option maxHeartbeats 0
namespace K86
open PySem PySem.Spec PyProof.Rows L2 Lit
abbrev law : PySem.W.OpenLaw := PySem.Challenge.rw_lotsintrees_k86_whole_labels_read_back
abbrev R : PySem.W.OpenRow := PySem.W.OpenLaw.row law
abbrev Pm : Program := law.prog
abbrev qv : Program := PySem.W.view R.prog [61]
def top (i : Nat) : Stmt := Pm.main.body.getD i (.Pass ⟨0, 0, 0, 0⟩)
def mth (s : Stmt) (j : Nat) : Stmt := match s with
  | .ClassDef _ _ _ body _ _ _ _ _ _ _ => body.getD j (.Pass ⟨0, 0, 0, 0⟩)
  | _ => .Pass ⟨0, 0, 0, 0⟩
def n0 : List Str := ["_wall", "NetworkError", "InvalidLot", "InvalidLine", "MOST_PLACES", "MOST_PRICE", "all_different", "Lot", "DIGITS", "MOST_DIGITS", "number_in", "leading_places", "lot_in", "Edit", "LotEdit", "PlaceEdit", "AddLot", "DropLot", "TellHead", "ReleaseHead", "LetJoin", "LetLeave", "SetCount", "SetRoot", "MOST_FIGURES", "figures_in", "edit_with_one", "edit_with_two", "edit_in", "read_edit"]
def n1 : List Str := ["_law_source", "_law_mixed", "_law_draw", "_law_number", "_law_same", "_law_pick", "_law_shuffled", "_law_group", "_law_menu", "_law_cost", "_law_row", "_law_lot_text", "_law_lot", "_law_lot_is", "_law_great", "_law_deed", "_law_text", "_law_made", "_law_is", "_law_figures", "_law_lot_read", "_law_reading", "_law_told", "_law_stands", "_law_spoilt"]
def names : List Str := n0 ++ n1
def ir0 : Sts := (.cons (.ret (.cell (.cons (.bi .list (.v 0)) (.cons (.k (.int 0)) (.cons (.k (.int 0)) (.cons (.k (.int 0)) (.cons (.k (.int 0)) (.cons (.k (.bl false)) .nil)))))))) .nil)
def ir1 : Sts := (.cons (.asg 2 (.bin .Mod (.bi .int (.bin .Add (.bin .Add (.bin .Mult (.v 0) (.k (.int 48271))) (.bin .Mult (.v 1) (.k (.int 69621)))) (.k (.int 11)))) (.k (.int 2147483647)))) (.cons (.asg 3 (.bin .Mod (.bi .int (.bin .Add (.bin .Add (.bin .Mult (.v 2) (.k (.int 16807))) (.bin .FloorDiv (.v 2) (.k (.int 3)))) (.bin .Mult (.v 1) (.k (.int 40692))))) (.k (.int 2147483399)))) (.cons (.ret (.bin .Mod (.bi .int (.bin .Add (.bin .Mult (.v 3) (.v 3)) (.v 2))) (.k (.int 2147483629)))) .nil)))
def ir2 : Sts := (.cons (.ite (.cmp .Eq (.ix (.v 0) (.k (.int 3))) (.k (.int 0))) (.cons (.ite (.cmp .GtE (.ix (.v 0) (.k (.int 1))) (.bi .len (.ix (.v 0) (.k (.int 0))))) (.cons (.ret (.k (.int 0))) .nil) .nil) (.cons (.setix (.v 0) (.k (.int 2)) (.ix (.ix (.v 0) (.k (.int 0))) (.ix (.v 0) (.k (.int 1))))) (.cons (.setix (.v 0) (.k (.int 1)) (.bin .Add (.ix (.v 0) (.k (.int 1))) (.k (.int 1)))) (.cons (.setix (.v 0) (.k (.int 5)) (.cmp .GtE (.ix (.v 0) (.k (.int 2))) (.bin .Pow (.k (.int 10)) (.k (.int 18))))) (.cons (.setix (.v 0) (.k (.int 3)) (.k (.int 9))) (.cons (.ite (.ix (.v 0) (.k (.int 5))) (.cons (.setix (.v 0) (.k (.int 3)) (.k (.int 60))) .nil) .nil) .nil)))))) .nil) (.cons (.setix (.v 0) (.k (.int 3)) (.bin .Sub (.ix (.v 0) (.k (.int 3))) (.k (.int 1)))) (.cons (.setix (.v 0) (.k (.int 4)) (.bin .Add (.ix (.v 0) (.k (.int 4))) (.k (.int 1)))) (.cons (.ite (.not (.ix (.v 0) (.k (.int 5)))) (.cons (.ret (.bin .Mod (.bi .int (.call 1 (.cons (.ix (.v 0) (.k (.int 2))) (.cons (.ix (.v 0) (.k (.int 4))) .nil)))) (.v 1))) .nil) .nil) (.cons (.asg 2 (.bin .Mod (.bi .int (.ix (.v 0) (.k (.int 2)))) (.v 1))) (.cons (.setix (.v 0) (.k (.int 2)) (.bin .FloorDiv (.ix (.v 0) (.k (.int 2))) (.v 1))) (.cons (.ite (.cmp .Eq (.ix (.v 0) (.k (.int 2))) (.k (.int 0))) (.cons (.setix (.v 0) (.k (.int 3)) (.k (.int 0))) .nil) .nil) (.cons (.ret (.v 2)) .nil))))))))
def ir3 : Sts := (.cons (.ret (.and (.cons (.isi (.v 0) .int) (.cons (.not (.isi (.v 0) .bool)) .nil)))) .nil)
def ir4 : Sts := (.cons (.ite (.isi (.v 1) .bool) (.cons (.ret (.and (.cons (.isi (.v 0) .bool) (.cons (.cmp .Eq (.v 0) (.v 1)) .nil)))) .nil) .nil) (.cons (.ite (.isi (.v 1) .int) (.cons (.ret (.and (.cons (.call 3 (.cons (.v 0) .nil)) (.cons (.cmp .Eq (.v 0) (.v 1)) .nil)))) .nil) .nil) (.cons (.ite (.isi (.v 1) .str) (.cons (.ret (.and (.cons (.isi (.v 0) .str) (.cons (.cmp .Eq (.v 0) (.v 1)) .nil)))) .nil) .nil) (.cons (.ite (.cmp .Is (.v 1) (.k .non)) (.cons (.ret (.cmp .Is (.v 0) (.k .non))) .nil) .nil) (.cons (.ite (.and (.cons (.isi (.v 1) .tuple) (.cons (.not (.isi (.v 0) .tuple)) .nil))) (.cons (.ret (.k (.bl false))) .nil) .nil) (.cons (.ite (.and (.cons (.isi (.v 1) .list) (.cons (.not (.isi (.v 0) .list)) .nil))) (.cons (.ret (.k (.bl false))) .nil) .nil) (.cons (.ite (.cmp .NotEq (.bi .len (.v 0)) (.bi .len (.v 1))) (.cons (.ret (.k (.bl false))) .nil) .nil) (.cons (.for_ 2 .rng1 (.bi .len (.v 1)) .no (.cons (.ite (.not (.call 4 (.cons (.ix (.v 0) (.v 2)) (.cons (.ix (.v 1) (.v 2)) .nil)))) (.cons (.ret (.k (.bl false))) .nil) .nil) .nil)) (.cons (.ret (.k (.bl true))) .nil)))))))))
def ir5 : Sts := (.cons (.ret (.ix (.v 1) (.call 2 (.cons (.v 0) (.cons (.bi .len (.v 1)) .nil))))) .nil)
def ir6 : Sts := (.cons (.asg 2 (.bi .list (.v 1))) (.cons (.asg 3 (.lst .nil)) (.cons (.for_ 4 .rng1 (.bi .len (.v 1)) .no (.cons (.ex (.mu .append (.v 3) (.cons (.mu .popAt (.v 2) (.cons (.call 2 (.cons (.v 0) (.cons (.bi .len (.v 2)) .nil))) .nil)) .nil))) .nil)) (.cons (.ret (.v 3)) .nil))))
def ir7 : Sts := (.cons (.asg 2 (.call 6 (.cons (.v 0) (.cons (.lrng (.v 1)) .nil)))) (.cons (.ret (.sl (.v 2) .no (.bin .Add (.k (.int 2)) (.call 2 (.cons (.v 0) (.cons (.bin .Sub (.v 1) (.k (.int 1))) .nil)))))) .nil))
def ir8 : Sts := (.cons (.ite (.cmp .Eq (.v 2) (.k (.int 0))) (.cons (.ret (.bi .list (.v 1))) .nil) .nil) (.cons (.ite (.cmp .Eq (.v 2) (.k (.int 1))) (.cons (.ret (.lst (.cons (.call 5 (.cons (.v 0) (.cons (.v 1) .nil))) .nil))) .nil) .nil) (.cons (.ret (.sl (.call 6 (.cons (.v 0) (.cons (.v 1) .nil))) .no (.bin .Add (.k (.int 1)) (.call 2 (.cons (.v 0) (.cons (.bi .len (.v 1)) .nil)))))) .nil)))
def ir9 : Sts := (.cons (.asg 1 (.call 2 (.cons (.v 0) (.cons (.k (.int 4)) .nil)))) (.cons (.ite (.cmp .Eq (.v 1) (.k (.int 0))) (.cons (.ret (.k (.int 0))) .nil) .nil) (.cons (.ite (.cmp .Eq (.v 1) (.k (.int 1))) (.cons (.ret (.bin .Sub (.bin .Pow (.k (.int 10)) (.k (.int 9))) (.call 2 (.cons (.v 0) (.cons (.k (.int 3)) .nil))))) .nil) .nil) (.cons (.ite (.cmp .Eq (.v 1) (.k (.int 2))) (.cons (.ret (.bin .Add (.k (.int 1)) (.call 2 (.cons (.v 0) (.cons (.k (.int 5)) .nil))))) .nil) .nil) (.cons (.ret (.call 2 (.cons (.v 0) (.cons (.bin .Add (.bin .Pow (.k (.int 10)) (.k (.int 9))) (.k (.int 1))) .nil)))) .nil)))))
def ir10 : Sts := (.cons (.asg 3 (.call 7 (.cons (.v 0) (.cons (.v 1) .nil)))) (.cons (.asg 4 (.k (.int 0))) (.cons (.ite (.not (.v 2)) (.cons (.asg 4 (.call 2 (.cons (.v 0) (.cons (.k (.int 3)) .nil)))) .nil) .nil) (.cons (.ret (.tup (.cons (.v 3) (.cons (.call 8 (.cons (.v 0) (.cons (.v 3) (.cons (.v 4) .nil)))) (.cons (.call 9 (.cons (.v 0) .nil)) .nil))))) .nil))))
def ir11 : Sts := (.cons (.asg 1 (.bi .sorted (.ix (.v 0) (.k (.int 0))))) (.cons (.asg 2 (.bi .sorted (.ix (.v 0) (.k (.int 1))))) (.cons (.asg 3 (.me .join (.k (.str " ")) (.cons (.lc 4 .lst (.v 1) .no .nil (.bi .str (.v 4))) .nil))) (.cons (.ite (.cmp .NotEq (.v 2) (.v 1)) (.cons (.asg 3 (.bin .Add (.bin .Add (.v 3) (.k (.str " heads "))) (.me .join (.k (.str " ")) (.cons (.lc 4 .lst (.v 2) .no .nil (.bi .str (.v 4))) .nil)))) .nil) .nil) (.cons (.ite (.cmp .NotEq (.ix (.v 0) (.k (.int 2))) (.k (.int 0))) (.cons (.asg 3 (.bin .Add (.bin .Add (.v 3) (.k (.str " price "))) (.bi .str (.ix (.v 0) (.k (.int 2)))))) .nil) .nil) (.cons (.ret (.v 3)) .nil))))))
def ir12 : Sts := (.cons (.for_ 1 .rng1 (.bi .len (.v 0)) .no (.cons (.ite (.cmp .In (.ix (.v 0) (.v 1)) (.sl (.v 0) .no (.v 1))) (.cons (.ret (.k (.bl false))) .nil) .nil) .nil)) (.cons (.ret (.k (.bl true))) .nil))
def ir13 : Sts := (.cons (.ite (.or (.cons (.cmp .Eq (.v 0) (.k (.str ""))) (.cons (.cmp .Gt (.bi .len (.v 0)) (.g "MOST_DIGITS")) .nil))) (.cons (.ret (.k .non)) .nil) .nil) (.cons (.for_ 3 .str (.v 0) .no (.cons (.ite (.cmp .NotIn (.v 3) (.g "DIGITS")) (.cons (.ret (.k .non)) .nil) .nil) .nil)) (.cons (.ite (.and (.cons (.cmp .Eq (.ix (.v 0) (.k (.int 0))) (.k (.str "0"))) (.cons (.cmp .Gt (.bi .len (.v 0)) (.k (.int 1))) .nil))) (.cons (.ret (.k .non)) .nil) .nil) (.cons (.asg 4 (.bi .int (.v 0))) (.cons (.ite (.or (.cons (.cmp .Lt (.v 4) (.v 1)) (.cons (.cmp .Gt (.v 4) (.v 2)) .nil))) (.cons (.ret (.k .non)) .nil) .nil) (.cons (.ret (.v 4)) .nil))))))
def ir14 : Sts := (.cons (.asg 2 (.lst .nil)) (.cons (.whl 100000 (.and (.cons (.cmp .Lt (.v 1) (.bi .len (.v 0))) (.cons (.cmp .IsNot (.call 13 (.cons (.ix (.v 0) (.v 1)) (.cons (.k (.int 0)) (.cons (.bin .Sub (.g "MOST_PLACES") (.k (.int 1))) .nil)))) (.k .non)) .nil))) (.cons (.ex (.mu .append (.v 2) (.cons (.bi .int (.ix (.v 0) (.v 1))) .nil))) (.cons (.aug 1 .Add (.k (.int 1))) .nil))) (.cons (.ret (.tup (.cons (.v 2) (.cons (.v 1) .nil)))) .nil)))
def ir15 : Sts := (.cons (.ite (.or (.cons (.cmp .Eq (.v 0) (.k (.str ""))) (.cons (.cmp .Gt (.bi .len (.v 0)) (.g "MOST_FIGURES")) .nil))) (.cons (.ret (.k .non)) .nil) .nil) (.cons (.for_ 1 .str (.v 0) .no (.cons (.ite (.cmp .NotIn (.v 1) (.g "DIGITS")) (.cons (.ret (.k .non)) .nil) .nil) .nil)) (.cons (.ite (.and (.cons (.cmp .Eq (.ix (.v 0) (.k (.int 0))) (.k (.str "0"))) (.cons (.cmp .Gt (.bi .len (.v 0)) (.k (.int 1))) .nil))) (.cons (.ret (.k .non)) .nil) .nil) (.cons (.ret (.bi .int (.v 0))) .nil))))
def ir16 : Sts := (.cons (.asg 1 (.call 2 (.cons (.v 0) (.cons (.k (.int 4)) .nil)))) (.cons (.ite (.cmp .Eq (.v 1) (.k (.int 0))) (.cons (.ret (.call 2 (.cons (.v 0) (.cons (.k (.int 13)) .nil)))) .nil) .nil) (.cons (.ite (.cmp .Eq (.v 1) (.k (.int 1))) (.cons (.ret (.bin .Sub (.bin .Sub (.bin .Pow (.k (.int 10)) (.k (.int 30))) (.k (.int 1))) (.call 2 (.cons (.v 0) (.cons (.k (.int 2)) .nil))))) .nil) .nil) (.cons (.ret (.call 2 (.cons (.v 0) (.cons (.call 5 (.cons (.v 0) (.cons (.lst (.cons (.k (.int 10)) (.cons (.k (.int 100)) (.cons (.k (.int 1000)) (.cons (.bin .Pow (.k (.int 10)) (.k (.int 6))) (.cons (.bin .Pow (.k (.int 10)) (.k (.int 12))) (.cons (.bin .Pow (.k (.int 10)) (.k (.int 20))) (.cons (.bin .Pow (.k (.int 10)) (.k (.int 30))) .nil)))))))) .nil))) .nil)))) .nil))))
def ir17 : Sts := (.cons (.asg 2 (.ix (.lst (.cons (.k (.str "add")) (.cons (.k (.str "drop")) (.cons (.k (.str "tell")) (.cons (.k (.str "release")) (.cons (.k (.str "join")) (.cons (.k (.str "leave")) (.cons (.k (.str "count")) (.cons (.k (.str "root")) .nil))))))))) (.v 1))) (.cons (.ite (.cmp .Eq (.v 1) (.k (.int 0))) (.cons (.ret (.tup (.cons (.v 2) (.cons (.call 10 (.cons (.v 0) (.cons (.bin .Add (.k (.int 2)) (.call 2 (.cons (.v 0) (.cons (.k (.int 11)) .nil)))) (.cons (.cmp .Eq (.call 2 (.cons (.v 0) (.cons (.k (.int 3)) .nil))) (.k (.int 0))) .nil)))) .nil)))) .nil) .nil) (.cons (.ite (.cmp .In (.v 1) (.lst (.cons (.k (.int 2)) (.cons (.k (.int 4)) (.cons (.k (.int 5)) .nil))))) (.cons (.ret (.tup (.cons (.v 2) (.cons (.call 16 (.cons (.v 0) .nil)) (.cons (.call 16 (.cons (.v 0) .nil)) .nil))))) .nil) .nil) (.cons (.ret (.tup (.cons (.v 2) (.cons (.call 16 (.cons (.v 0) .nil)) .nil)))) .nil))))
def ir18 : Sts := (.cons (.ite (.cmp .Eq (.ix (.v 0) (.k (.int 0))) (.k (.str "add"))) (.cons (.ret (.bin .Add (.k (.str "add ")) (.call 11 (.cons (.ix (.v 0) (.k (.int 1))) .nil)))) .nil) .nil) (.cons (.ret (.me .join (.k (.str " ")) (.cons (.bin .Add (.lst (.cons (.ix (.v 0) (.k (.int 0))) .nil)) (.lc 1 .tup (.sl (.v 0) (.k (.int 1)) .no) .no .nil (.bi .str (.v 1)))) .nil))) .nil))
def ir19 : Sts := (.cons (.ite (.or (.cons (.cmp .Eq (.v 0) (.k (.str ""))) (.cons (.cmp .Gt (.bi .len (.v 0)) (.v 1)) .nil))) (.cons (.ret (.k .non)) .nil) .nil) (.cons (.for_ 2 .str (.v 0) .no (.cons (.ite (.cmp .NotIn (.v 2) (.k (.str "0123456789"))) (.cons (.ret (.k .non)) .nil) .nil) .nil)) (.cons (.ite (.and (.cons (.cmp .Gt (.bi .len (.v 0)) (.k (.int 1))) (.cons (.cmp .Eq (.ix (.v 0) (.k (.int 0))) (.k (.str "0"))) .nil))) (.cons (.ret (.k .non)) .nil) .nil) (.cons (.ret (.bi .int (.v 0))) .nil))))
def ir20 : Sts := (.cons (.ite (.or (.cons (.cmp .Lt (.bi .len (.v 1)) (.k (.int 2))) (.cons (.not (.call 12 (.cons (.v 1) .nil))) .nil))) (.cons (.raise 1 (.cons (.k (.str "members")) .nil)) .nil) .nil) (.cons (.for_ 4 .lst (.v 1) .no (.cons (.ite (.not (.chn .LtE .Lt (.k (.int 0)) (.v 4) (.g "MOST_PLACES"))) (.cons (.raise 1 (.cons (.k (.str "members")) .nil)) .nil) .nil) .nil)) (.cons (.ite (.cmp .Is (.v 2) (.k .non)) (.cons (.asg 2 (.v 1)) .nil) .nil) (.cons (.ite (.or (.cons (.cmp .Eq (.bi .len (.v 2)) (.k (.int 0))) (.cons (.not (.call 12 (.cons (.v 2) .nil))) .nil))) (.cons (.raise 1 (.cons (.k (.str "candidates")) .nil)) .nil) .nil) (.cons (.for_ 4 .lst (.v 2) .no (.cons (.ite (.cmp .NotIn (.v 4) (.v 1)) (.cons (.raise 1 (.cons (.k (.str "candidates")) .nil)) .nil) .nil) .nil)) (.cons (.ite (.not (.chn .LtE .LtE (.k (.int 0)) (.v 3) (.g "MOST_PRICE"))) (.cons (.raise 1 (.cons (.k (.str "price")) .nil)) .nil) .nil) (.cons (.setf (.v 0) "members" (.bi .tuple (.bi .sorted (.v 1)))) (.cons (.setf (.v 0) "candidates" (.bi .tuple (.bi .sorted (.v 2)))) (.cons (.setf (.v 0) "price" (.v 3)) .nil)))))))))
def ir21 : Sts := (.cons (.ret (.mk 0 (.cons (.bi .list (.ix (.v 0) (.k (.int 0)))) (.cons (.bi .list (.ix (.v 0) (.k (.int 1)))) (.cons (.ix (.v 0) (.k (.int 2))) .nil))))) .nil)
def ir22 : Sts := (.cons (.ite (.or (.cons (.not (.call 4 (.cons (.fld (.v 0) "members") (.cons (.bi .tuple (.bi .sorted (.ix (.v 1) (.k (.int 0))))) .nil)))) (.cons (.not (.call 4 (.cons (.fld (.v 0) "price") (.cons (.ix (.v 1) (.k (.int 2))) .nil)))) .nil))) (.cons (.ret (.k (.bl false))) .nil) .nil) (.cons (.ret (.call 4 (.cons (.fld (.v 0) "candidates") (.cons (.bi .tuple (.bi .sorted (.ix (.v 1) (.k (.int 1))))) .nil)))) .nil))
def ir23 : Sts := (.cons (.asg 1 (.lst (.cons (.me .join (.k (.str " ")) (.cons (.lc 2 .tup (.fld (.v 0) "members") .no .nil (.bi .str (.v 2))) .nil)) .nil))) (.cons (.ite (.cmp .NotEq (.fld (.v 0) "candidates") (.fld (.v 0) "members")) (.cons (.ex (.mu .append (.v 1) (.cons (.bin .Add (.k (.str "heads ")) (.me .join (.k (.str " ")) (.cons (.lc 2 .tup (.fld (.v 0) "candidates") .no .nil (.bi .str (.v 2))) .nil))) .nil))) .nil) .nil) (.cons (.ite (.cmp .NotEq (.fld (.v 0) "price") (.k (.int 0))) (.cons (.ex (.mu .append (.v 1) (.cons (.bin .Add (.k (.str "price ")) (.bi .str (.fld (.v 0) "price"))) .nil))) .nil) .nil) (.cons (.ret (.me .join (.k (.str " ")) (.cons (.v 1) .nil))) .nil))))
def ir24 : Sts := (.cons (.ite (.cmp .Eq (.v 0) (.k (.str "drop"))) (.cons (.ret (.mk 1 (.cons (.v 1) .nil))) .nil) .nil) (.cons (.ite (.cmp .Eq (.v 0) (.k (.str "release"))) (.cons (.ret (.mk 2 (.cons (.v 1) .nil))) .nil) .nil) (.cons (.ite (.cmp .Eq (.v 0) (.k (.str "count"))) (.cons (.ret (.mk 3 (.cons (.v 1) .nil))) .nil) .nil) (.cons (.ite (.cmp .Eq (.v 0) (.k (.str "root"))) (.cons (.ret (.mk 4 (.cons (.v 1) .nil))) .nil) .nil) (.cons (.ret (.k .non)) .nil)))))
def ir25 : Sts := (.cons (.ite (.cmp .Eq (.v 0) (.k (.str "tell"))) (.cons (.ret (.mk 5 (.cons (.v 1) (.cons (.v 2) .nil)))) .nil) .nil) (.cons (.ite (.cmp .Eq (.v 0) (.k (.str "join"))) (.cons (.ret (.mk 6 (.cons (.v 1) (.cons (.v 2) .nil)))) .nil) .nil) (.cons (.ite (.cmp .Eq (.v 0) (.k (.str "leave"))) (.cons (.ret (.mk 7 (.cons (.v 1) (.cons (.v 2) .nil)))) .nil) .nil) (.cons (.ret (.k .non)) .nil))))
def ir26 : Sts := (.cons (.setf (.v 0) "serial" (.v 1)) .nil)
def ir27 : Sts := (.cons (.setf (.v 0) "serial" (.v 1)) (.cons (.setf (.v 0) "place" (.v 2)) .nil))
def ir28 : Sts := (.cons (.setf (.v 0) "serial" (.v 1)) (.cons (.setf (.v 0) "place" (.v 2)) .nil))
def ir29 : Sts := (.cons (.setf (.v 0) "serial" (.v 1)) (.cons (.setf (.v 0) "place" (.v 2)) .nil))
def ir30 : Sts := (.cons (.setf (.v 0) "place" (.v 1)) .nil)
def ir31 : Sts := (.cons (.setf (.v 0) "count" (.v 1)) .nil)
def ir32 : Sts := (.cons (.setf (.v 0) "lot" (.v 1)) .nil)
def ir33 : Sts := (.cons (.ret (.con (.v 0) "WORD")) .nil)
def ir34 : Sts := (.cons (.ret (.bin .Add (.bin .Add (.sup 10 "label" .nil) (.k (.str " "))) (.bi .str (.fld (.v 0) "serial")))) .nil)
def ir35 : Sts := (.cons (.ret (.bin .Add (.bin .Add (.sup 11 "label" .nil) (.k (.str " "))) (.bi .str (.fld (.v 0) "place")))) .nil)
def ir36 : Sts := (.cons (.ret (.bin .Add (.bin .Add (.sup 8 "label" .nil) (.k (.str " "))) (.sto 23 (.fld (.v 0) "lot")))) .nil)
def ir37 : Sts := (.cons (.ret (.bin .Add (.bin .Add (.sup 3 "label" .nil) (.k (.str " "))) (.bi .str (.fld (.v 0) "count")))) .nil)
def ir38 : Sts := (.cons (.asg 3 (.me .split (.v 0) (.cons (.k (.str " ")) .nil))) (.cons (.asgT [6, 7] (.call 14 (.cons (.v 3) (.cons (.k (.int 1)) .nil)))) (.cons (.asg 4 (.k .non)) (.cons (.ite (.and (.cons (.cmp .Lt (.v 7) (.bi .len (.v 3))) (.cons (.cmp .Eq (.ix (.v 3) (.v 7)) (.k (.str "heads"))) .nil))) (.cons (.asgT [4, 7] (.call 14 (.cons (.v 3) (.cons (.bin .Add (.v 7) (.k (.int 1))) .nil)))) .nil) .nil) (.cons (.asg 5 (.k .non)) (.cons (.ite (.cmp .Lt (.v 7) (.bi .len (.v 3))) (.cons (.asg 5 (.call 13 (.cons (.ix (.v 3) (.neg (.k (.int 1)))) (.cons (.k (.int 1)) (.cons (.g "MOST_PRICE") .nil))))) .nil) .nil) (.cons (.tryR (.cons (.asg 8 (.mk 0 (.cons (.v 6) (.cons (.v 4) (.cons (.ife (.cmp .Is (.v 5) (.k .non)) (.k (.int 0)) (.v 5)) .nil))))) .nil) 1 2 (.cons (.v 2) .nil)) (.cons (.ite (.or (.cons (.cmp .NotEq (.bin .Add (.k (.str "lot ")) (.sto 23 (.v 8))) (.v 0)) (.cons (.cmp .GtE (.ix (.fld (.v 8) "members") (.neg (.k (.int 1)))) (.v 1)) .nil))) (.cons (.raise 2 (.cons (.v 2) .nil)) .nil) .nil) (.cons (.ret (.v 8)) .nil)))))))))
def ir39 : Sts := (.cons (.asg 2 (.me .split (.v 0) (.cons (.k (.str " ")) .nil))) (.cons (.ite (.cmp .Eq (.ix (.v 2) (.k (.int 0))) (.k (.str "add"))) (.cons (.ret (.mk 8 (.cons (.call 38 (.cons (.bin .Add (.k (.str "lot")) (.sl (.v 0) (.k (.int 3)) .no)) (.cons (.g "MOST_PLACES") (.cons (.v 1) .nil)))) .nil))) .nil) .nil) (.cons (.asg 3 (.lc 5 .lst (.sl (.v 2) (.k (.int 1)) .no) .no .nil (.call 15 (.cons (.v 5) .nil)))) (.cons (.asg 4 (.k .non)) (.cons (.ite (.and (.cons (.cmp .NotIn (.k .non) (.v 3)) (.cons (.cmp .Eq (.bi .len (.v 3)) (.k (.int 1))) .nil))) (.cons (.asg 4 (.call 24 (.cons (.ix (.v 2) (.k (.int 0))) (.cons (.ix (.v 3) (.k (.int 0))) .nil)))) .nil) (.cons (.ite (.and (.cons (.cmp .NotIn (.k .non) (.v 3)) (.cons (.cmp .Eq (.bi .len (.v 3)) (.k (.int 2))) .nil))) (.cons (.asg 4 (.call 25 (.cons (.ix (.v 2) (.k (.int 0))) (.cons (.ix (.v 3) (.k (.int 0))) (.cons (.ix (.v 3) (.k (.int 1))) .nil))))) .nil) .nil) .nil)) (.cons (.ite (.cmp .Is (.v 4) (.k .non)) (.cons (.raise 2 (.cons (.v 1) .nil)) .nil) .nil) (.cons (.ret (.v 4)) .nil)))))))
def ir40 : Sts := (.cons (.ret (.call 39 (.cons (.v 0) (.cons (.k (.int 1)) .nil)))) .nil)
def ir41 : Sts := (.cons (.ite (.cmp .Eq (.ix (.v 0) (.k (.int 0))) (.k (.str "add"))) (.cons (.ret (.mk 8 (.cons (.call 21 (.cons (.ix (.v 0) (.k (.int 1))) .nil)) .nil))) .nil) .nil) (.cons (.ite (.cmp .Eq (.ix (.v 0) (.k (.int 0))) (.k (.str "drop"))) (.cons (.ret (.mk 1 (.cons (.ix (.v 0) (.k (.int 1))) .nil))) .nil) .nil) (.cons (.ite (.cmp .Eq (.ix (.v 0) (.k (.int 0))) (.k (.str "tell"))) (.cons (.ret (.mk 5 (.cons (.ix (.v 0) (.k (.int 1))) (.cons (.ix (.v 0) (.k (.int 2))) .nil)))) .nil) .nil) (.cons (.ite (.cmp .Eq (.ix (.v 0) (.k (.int 0))) (.k (.str "release"))) (.cons (.ret (.mk 2 (.cons (.ix (.v 0) (.k (.int 1))) .nil))) .nil) .nil) (.cons (.ite (.cmp .Eq (.ix (.v 0) (.k (.int 0))) (.k (.str "join"))) (.cons (.ret (.mk 6 (.cons (.ix (.v 0) (.k (.int 1))) (.cons (.ix (.v 0) (.k (.int 2))) .nil)))) .nil) .nil) (.cons (.ite (.cmp .Eq (.ix (.v 0) (.k (.int 0))) (.k (.str "leave"))) (.cons (.ret (.mk 7 (.cons (.ix (.v 0) (.k (.int 1))) (.cons (.ix (.v 0) (.k (.int 2))) .nil)))) .nil) .nil) (.cons (.ite (.cmp .Eq (.ix (.v 0) (.k (.int 0))) (.k (.str "count"))) (.cons (.ret (.mk 3 (.cons (.ix (.v 0) (.k (.int 1))) .nil))) .nil) .nil) (.cons (.ret (.mk 4 (.cons (.ix (.v 0) (.k (.int 1))) .nil))) .nil))))))))
def ir42 : Sts := (.cons (.ite (.cmp .Eq (.ix (.v 1) (.k (.int 0))) (.k (.str "add"))) (.cons (.ret (.and (.cons (.isi (.v 0) (.cls 8)) (.cons (.call 22 (.cons (.fld (.v 0) "lot") (.cons (.ix (.v 1) (.k (.int 1))) .nil))) .nil)))) .nil) .nil) (.cons (.ite (.cmp .Eq (.ix (.v 1) (.k (.int 0))) (.k (.str "count"))) (.cons (.ret (.and (.cons (.isi (.v 0) (.cls 3)) (.cons (.call 4 (.cons (.fld (.v 0) "count") (.cons (.ix (.v 1) (.k (.int 1))) .nil))) .nil)))) .nil) .nil) (.cons (.ite (.cmp .Eq (.ix (.v 1) (.k (.int 0))) (.k (.str "root"))) (.cons (.ret (.and (.cons (.isi (.v 0) (.cls 4)) (.cons (.call 4 (.cons (.fld (.v 0) "place") (.cons (.ix (.v 1) (.k (.int 1))) .nil))) .nil)))) .nil) .nil) (.cons (.ite (.cmp .Eq (.ix (.v 1) (.k (.int 0))) (.k (.str "drop"))) (.cons (.ret (.and (.cons (.isi (.v 0) (.cls 1)) (.cons (.call 4 (.cons (.fld (.v 0) "serial") (.cons (.ix (.v 1) (.k (.int 1))) .nil))) .nil)))) .nil) .nil) (.cons (.ite (.cmp .Eq (.ix (.v 1) (.k (.int 0))) (.k (.str "release"))) (.cons (.ret (.and (.cons (.isi (.v 0) (.cls 2)) (.cons (.call 4 (.cons (.fld (.v 0) "serial") (.cons (.ix (.v 1) (.k (.int 1))) .nil))) .nil)))) .nil) .nil) (.cons (.ite (.and (.cons (.cmp .Eq (.ix (.v 1) (.k (.int 0))) (.k (.str "tell"))) (.cons (.not (.isi (.v 0) (.cls 5))) .nil))) (.cons (.ret (.k (.bl false))) .nil) .nil) (.cons (.ite (.and (.cons (.cmp .Eq (.ix (.v 1) (.k (.int 0))) (.k (.str "join"))) (.cons (.not (.isi (.v 0) (.cls 6))) .nil))) (.cons (.ret (.k (.bl false))) .nil) .nil) (.cons (.ite (.and (.cons (.cmp .Eq (.ix (.v 1) (.k (.int 0))) (.k (.str "leave"))) (.cons (.not (.isi (.v 0) (.cls 7))) .nil))) (.cons (.ret (.k (.bl false))) .nil) .nil) (.cons (.ret (.call 4 (.cons (.lst (.cons (.fld (.v 0) "serial") (.cons (.fld (.v 0) "place") .nil))) (.cons (.lst (.cons (.ix (.v 1) (.k (.int 1))) (.cons (.ix (.v 1) (.k (.int 2))) .nil))) .nil)))) .nil)))))))))
def ir43 : Sts := (.cons (.asg 1 (.lst (.cons (.cell .nil) (.cons (.cell .nil) (.cons (.cell .nil) .nil))))) (.cons (.asg 2 (.k (.int 0))) (.cons (.for_ 3 .lst (.v 0) .no (.cons (.ite (.and (.cons (.cmp .Eq (.v 3) (.k (.str "heads"))) (.cons (.cmp .Eq (.v 2) (.k (.int 0))) .nil))) (.cons (.asg 2 (.k (.int 1))) .nil) (.cons (.ite (.and (.cons (.cmp .Eq (.v 3) (.k (.str "price"))) (.cons (.cmp .Lt (.v 2) (.k (.int 2))) .nil))) (.cons (.asg 2 (.k (.int 2))) .nil) (.cons (.ex (.mu .append (.ix (.v 1) (.v 2)) (.cons (.call 19 (.cons (.v 3) (.cons (.k (.int 10)) .nil))) .nil))) .nil)) .nil)) .nil)) (.cons (.ite (.or (.cons (.cmp .In (.k .non) (.bin .Add (.bin .Add (.ix (.v 1) (.k (.int 0))) (.ix (.v 1) (.k (.int 1)))) (.ix (.v 1) (.k (.int 2))))) (.cons (.cmp .Lt (.bi .len (.ix (.v 1) (.k (.int 0)))) (.k (.int 2))) (.cons (.cmp .Gt (.bi .max (.ix (.v 1) (.k (.int 0)))) (.k (.int 11))) .nil)))) (.cons (.ret (.k .non)) .nil) .nil) (.cons (.asg 4 (.ix (.v 1) (.k (.int 0)))) (.cons (.asg 5 (.bi .list (.v 4))) (.cons (.ite (.cmp .Gt (.bi .len (.ix (.v 1) (.k (.int 1)))) (.k (.int 0))) (.cons (.asg 5 (.ix (.v 1) (.k (.int 1)))) .nil) .nil) (.cons (.asg 6 (.ix (.bin .Add (.ix (.v 1) (.k (.int 2))) (.lst (.cons (.k (.int 0)) .nil))) (.k (.int 0)))) (.cons (.asg 7 (.bin .Add (.lc 8 .lst (.v 5) .no (.cons (.cmp .NotIn (.v 8) (.v 4)) .nil) (.v 8)) (.lc 9 .rng1 (.bi .len (.v 5)) .no (.cons (.cmp .In (.ix (.v 5) (.v 9)) (.sl (.v 5) .no (.v 9))) .nil) (.v 9)))) (.cons (.asg 7 (.bin .Add (.v 7) (.lc 9 .rng1 (.bi .len (.v 4)) .no (.cons (.cmp .In (.ix (.v 4) (.v 9)) (.sl (.v 4) .no (.v 9))) .nil) (.v 9)))) (.cons (.ite (.or (.cons (.cmp .Gt (.bi .len (.v 7)) (.k (.int 0))) (.cons (.cmp .Gt (.v 6) (.bin .Pow (.k (.int 10)) (.k (.int 9)))) .nil))) (.cons (.ret (.k .non)) .nil) .nil) (.cons (.ret (.tup (.cons (.k (.str "add")) (.cons (.tup (.cons (.v 4) (.cons (.v 5) (.cons (.v 6) .nil)))) .nil)))) .nil))))))))))))
def ir44 : Sts := (.cons (.asg 1 (.me .split (.v 0) (.cons (.k (.str " ")) .nil))) (.cons (.ite (.cmp .Eq (.ix (.v 1) (.k (.int 0))) (.k (.str "add"))) (.cons (.asg 2 (.call 43 (.cons (.sl (.v 1) (.k (.int 1)) .no) .nil))) .nil) (.cons (.asg 3 (.k (.int 1))) (.cons (.ite (.cmp .In (.ix (.v 1) (.k (.int 0))) (.lst (.cons (.k (.str "tell")) (.cons (.k (.str "join")) (.cons (.k (.str "leave")) .nil))))) (.cons (.asg 3 (.k (.int 2))) .nil) (.cons (.ite (.cmp .NotIn (.ix (.v 1) (.k (.int 0))) (.lst (.cons (.k (.str "drop")) (.cons (.k (.str "release")) (.cons (.k (.str "count")) (.cons (.k (.str "root")) .nil)))))) (.cons (.ret (.k .non)) .nil) .nil) .nil)) (.cons (.asg 4 (.lc 5 .lst (.sl (.v 1) (.k (.int 1)) .no) .no .nil (.call 19 (.cons (.v 5) (.cons (.k (.int 30)) .nil))))) (.cons (.ite (.or (.cons (.cmp .In (.k .non) (.v 4)) (.cons (.cmp .NotEq (.bi .len (.v 4)) (.v 3)) .nil))) (.cons (.ret (.k .non)) .nil) .nil) (.cons (.asg 2 (.bi .tuple (.bin .Add (.lst (.cons (.ix (.v 1) (.k (.int 0))) .nil)) (.v 4)))) .nil)))))) (.cons (.ite (.or (.cons (.cmp .Is (.v 2) (.k .non)) (.cons (.cmp .NotEq (.call 18 (.cons (.v 2) .nil)) (.v 0)) .nil))) (.cons (.ret (.k .non)) .nil) .nil) (.cons (.ret (.v 2)) .nil))))
def ir45 : Sts := (.cons (.tryH (.cons (.ret (.tup (.cons (.k (.str "read")) (.cons (.call 40 (.cons (.v 0) .nil)) .nil)))) .nil) 0 1 [([(true, .c 2), (true, .ve)], [.c (.str "refused"), .f "line"])] [.c (.str "other"), .c (.int 0)]) .nil)
def ir46 : Sts := (.cons (.asg 1 (.call 44 (.cons (.v 0) .nil))) (.cons (.asg 2 (.call 45 (.cons (.v 0) .nil))) (.cons (.ite (.cmp .Is (.v 1) (.k .non)) (.cons (.ret (.call 4 (.cons (.v 2) (.cons (.tup (.cons (.k (.str "refused")) (.cons (.k (.int 1)) .nil))) .nil)))) .nil) .nil) (.cons (.ret (.and (.cons (.cmp .Eq (.ix (.v 2) (.k (.int 0))) (.k (.str "read"))) (.cons (.call 42 (.cons (.ix (.v 2) (.k (.int 1))) (.cons (.v 1) .nil))) (.cons (.call 4 (.cons (.inv (.ix (.v 2) (.k (.int 1))) "label" .nil) (.cons (.v 0) .nil))) .nil))))) .nil))))
def ir47 : Sts := (.cons (.asg 2 (.me .split (.v 1) (.cons (.k (.str " ")) .nil))) (.cons (.asg 3 (.call 2 (.cons (.v 0) (.cons (.k (.int 8)) .nil)))) (.cons (.asg 4 (.call 2 (.cons (.v 0) (.cons (.bi .len (.v 2)) .nil)))) (.cons (.asg 5 (.call 2 (.cons (.v 0) (.cons (.bi .len (.v 2)) .nil)))) (.cons (.asg 6 (.lst (.cons (.k (.str "")) (.cons (.k (.str "0")) (.cons (.k (.str "1")) (.cons (.k (.str "00")) (.cons (.k (.str "-1")) (.cons (.k (.str "+2")) (.cons (.k (.str "11")) (.cons (.k (.str "12")) (.cons (.k (.str "x")) (.cons (.k (.str "add")) (.cons (.k (.str "drop")) (.cons (.k (.str "tell")) (.cons (.k (.str "release")) (.cons (.k (.str "join")) (.cons (.k (.str "leave")) (.cons (.k (.str "count")) .nil)))))))))))))))))) (.cons (.asg 6 (.bin .Add (.v 6) (.lst (.cons (.k (.str "root")) (.cons (.k (.str "edit")) (.cons (.k (.str "heads")) (.cons (.k (.str "price")) (.cons (.k (.str "1000000000")) (.cons (.k (.str "1000000001")) (.cons (.bin .Mult (.k (.str "9")) (.k (.int 30))) (.cons (.bin .Add (.k (.str "1")) (.bin .Mult (.k (.str "0")) (.k (.int 30)))) (.cons (.k (.str "1\n")) (.cons (.k (.str "Add")) .nil))))))))))))) (.cons (.asg 7 (.call 5 (.cons (.v 0) (.cons (.v 6) .nil)))) (.cons (.ite (.cmp .Eq (.v 3) (.k (.int 0))) (.cons (.setix (.v 2) (.v 4) (.v 7)) .nil) (.cons (.ite (.cmp .Eq (.v 3) (.k (.int 1))) (.cons (.ex (.mu .insert (.v 2) (.cons (.v 4) (.cons (.v 7) .nil)))) .nil) (.cons (.ite (.cmp .Eq (.v 3) (.k (.int 2))) (.cons (.ex (.mu .append (.v 2) (.cons (.v 7) .nil))) .nil) (.cons (.ite (.cmp .Eq (.v 3) (.k (.int 3))) (.cons (.ex (.mu .popAt (.v 2) (.cons (.v 4) .nil))) .nil) (.cons (.ite (.cmp .Eq (.v 3) (.k (.int 4))) (.cons (.setix (.v 2) (.v 4) (.bin .Add (.k (.str "0")) (.ix (.v 2) (.v 4)))) .nil) (.cons (.ite (.cmp .Eq (.v 3) (.k (.int 5))) (.cons (.setix (.v 2) (.v 4) (.bin .Add (.ix (.v 2) (.v 4)) (.call 5 (.cons (.v 0) (.cons (.lst (.cons (.k (.str "\n")) (.cons (.k (.str "0")) (.cons (.k (.str "x")) (.cons (.k (.str "|")) (.cons (.k (.str ".")) .nil)))))) .nil))))) .nil) (.cons (.ite (.cmp .Eq (.v 3) (.k (.int 6))) (.cons (.setix (.v 2) (.v 4) (.ix (.v 2) (.v 5))) .nil) (.cons (.asg 8 (.ix (.v 2) (.v 4))) (.cons (.setix (.v 2) (.v 4) (.ix (.v 2) (.v 5))) (.cons (.setix (.v 2) (.v 5) (.v 8)) .nil)))) .nil)) .nil)) .nil)) .nil)) .nil)) .nil)) (.cons (.ret (.me .join (.k (.str " ")) (.cons (.v 2) .nil))) .nil)))))))))
def ir48 : Sts := (.cons (.asg 1 (.call 0 (.cons (.v 0) .nil))) (.cons (.for_ 2 .rng1 (.k (.int 8)) .no (.cons (.asg 6 (.call 17 (.cons (.v 1) (.cons (.v 2) .nil)))) (.cons (.asg 5 (.call 18 (.cons (.v 6) .nil))) (.cons (.ite (.or (.cons (.not (.call 4 (.cons (.inv (.call 41 (.cons (.v 6) .nil)) "label" .nil) (.cons (.v 5) .nil)))) (.cons (.cmp .Is (.call 44 (.cons (.v 5) .nil)) (.k .non)) (.cons (.not (.call 46 (.cons (.v 5) .nil))) .nil)))) (.cons (.ret (.k (.bl false))) .nil) .nil) .nil)))) (.cons (.for_ 3 .rng1 (.k (.int 6)) .no (.cons (.asg 5 (.call 47 (.cons (.v 1) (.cons (.call 18 (.cons (.call 17 (.cons (.v 1) (.cons (.call 2 (.cons (.v 1) (.cons (.k (.int 8)) .nil))) .nil))) .nil)) .nil)))) (.cons (.ite (.cmp .Eq (.call 2 (.cons (.v 1) (.cons (.k (.int 3)) .nil))) (.k (.int 1))) (.cons (.asg 5 (.call 47 (.cons (.v 1) (.cons (.v 5) .nil)))) .nil) .nil) (.cons (.ite (.not (.call 46 (.cons (.v 5) .nil))) (.cons (.ret (.k (.bl false))) .nil) .nil) .nil)))) (.cons (.asg 4 (.lst (.cons (.k (.str "")) (.cons (.k (.str " ")) (.cons (.k (.str "add")) (.cons (.k (.str "add ")) (.cons (.k (.str "add 0 1")) (.cons (.k (.str "add 1 0")) (.cons (.k (.str "add 0 1 heads 0 1")) (.cons (.k (.str "add 0 1 heads")) (.cons (.k (.str "add 0 1 price 0")) .nil))))))))))) (.cons (.asg 4 (.bin .Add (.v 4) (.lst (.cons (.k (.str "add 0 1 heads 1 price 1")) (.cons (.k (.str "add 0 1 price 1 heads 1")) (.cons (.k (.str "add 0 12")) (.cons (.k (.str "add 0 0")) (.cons (.k (.str "add 0 1\n")) (.cons (.k (.str "drop")) .nil))))))))) (.cons (.asg 4 (.bin .Add (.v 4) (.lst (.cons (.k (.str "drop ")) (.cons (.k (.str "drop 1 2")) (.cons (.k (.str "drop -1")) (.cons (.bin .Add (.k (.str "drop ")) (.bin .Mult (.k (.str "9")) (.k (.int 30)))) (.cons (.bin .Add (.k (.str "drop 1")) (.bin .Mult (.k (.str "0")) (.k (.int 30)))) (.cons (.k (.str "tell 1")) (.cons (.k (.str "tell 1 2 3")) .nil)))))))))) (.cons (.asg 4 (.bin .Add (.v 4) (.lst (.cons (.k (.str "root 00")) (.cons (.k (.str "root  1")) (.cons (.k (.str "count 9")) (.cons (.k (.str "count +1")) (.cons (.k (.str "edit")) (.cons (.k (.str "edit 1")) (.cons (.k (.str "Drop 1")) (.cons (.k (.str " drop 1")) (.cons (.k (.str "leave 1 2\n")) .nil)))))))))))) (.cons (.for_ 5 .lst (.v 4) .no (.cons (.ite (.not (.call 46 (.cons (.v 5) .nil))) (.cons (.ret (.k (.bl false))) .nil) .nil) .nil)) (.cons (.ret (.k (.bl true))) .nil)))))))))
def rows : List DT := [
  ⟨⟨("_law_source", none), "_law_source", "_law_source", defArgs (top 36), defBody (top 36), defScope (top 36), [], []⟩, ["script"], 1, ir0, false, none⟩,
  ⟨⟨("_law_mixed", none), "_law_mixed", "_law_mixed", defArgs (top 37), defBody (top 37), defScope (top 37), [], []⟩, ["cell", "turn", "first", "second"], 2, ir1, false, none⟩,
  ⟨⟨("_law_draw", none), "_law_draw", "_law_draw", defArgs (top 38), defBody (top 38), defScope (top 38), [], []⟩, ["source", "limit", "told"], 2, ir2, false, none⟩,
  ⟨⟨("_law_number", none), "_law_number", "_law_number", defArgs (top 39), defBody (top 39), defScope (top 39), [], []⟩, ["actual"], 1, ir3, false, none⟩,
  ⟨⟨("_law_same", none), "_law_same", "_law_same", defArgs (top 40), defBody (top 40), defScope (top 40), [], []⟩, ["actual", "expected", "k"], 2, ir4, false, none⟩,
  ⟨⟨("_law_pick", none), "_law_pick", "_law_pick", defArgs (top 41), defBody (top 41), defScope (top 41), [], []⟩, ["source", "row"], 2, ir5, false, none⟩,
  ⟨⟨("_law_shuffled", none), "_law_shuffled", "_law_shuffled", defArgs (top 42), defBody (top 42), defScope (top 42), [], []⟩, ["source", "row", "left", "out", "k"], 2, ir6, false, none⟩,
  ⟨⟨("_law_group", none), "_law_group", "_law_group", defArgs (top 43), defBody (top 43), defScope (top 43), [], []⟩, ["source", "size", "row"], 2, ir7, false, none⟩,
  ⟨⟨("_law_menu", none), "_law_menu", "_law_menu", defArgs (top 44), defBody (top 44), defScope (top 44), [], []⟩, ["source", "group", "kind"], 3, ir8, false, none⟩,
  ⟨⟨("_law_cost", none), "_law_cost", "_law_cost", defArgs (top 45), defBody (top 45), defScope (top 45), [], []⟩, ["source", "kind"], 1, ir9, false, none⟩,
  ⟨⟨("_law_row", none), "_law_row", "_law_row", defArgs (top 46), defBody (top 46), defScope (top 46), [], []⟩, ["source", "size", "free", "group", "kind"], 3, ir10, false, none⟩,
  ⟨⟨("_law_lot_text", none), "_law_lot_text", "_law_lot_text", defArgs (top 47), defBody (top 47), defScope (top 47), [], []⟩, ["row", "group", "menu", "text", "place"], 1, ir11, false, none⟩,
  ⟨⟨("all_different", none), "all_different", "all_different", defArgs (top 8), defBody (top 8), defScope (top 8), [], []⟩, ["places", "index"], 1, ir12, true, none⟩,
  ⟨⟨("number_in", none), "number_in", "number_in", defArgs (top 13), defBody (top 13), defScope (top 13), [], []⟩, ["word", "least", "most", "sign", "number"], 3, ir13, false, none⟩,
  ⟨⟨("leading_places", none), "leading_places", "leading_places", defArgs (top 14), defBody (top 14), defScope (top 14), [], []⟩, ["words", "index", "places"], 2, ir14, false, none⟩,
  ⟨⟨("figures_in", none), "figures_in", "figures_in", defArgs (top 30), defBody (top 30), defScope (top 30), [], []⟩, ["word", "sign"], 1, ir15, false, none⟩,
  ⟨⟨("_law_great", none), "_law_great", "_law_great", defArgs (top 50), defBody (top 50), defScope (top 50), [], []⟩, ["source", "kind"], 1, ir16, false, none⟩,
  ⟨⟨("_law_deed", none), "_law_deed", "_law_deed", defArgs (top 51), defBody (top 51), defScope (top 51), [], []⟩, ["source", "kind", "word"], 2, ir17, false, none⟩,
  ⟨⟨("_law_text", none), "_law_text", "_law_text", defArgs (top 52), defBody (top 52), defScope (top 52), [], []⟩, ["deed", "number"], 1, ir18, false, none⟩,
  ⟨⟨("_law_figures", none), "_law_figures", "_law_figures", defArgs (top 55), defBody (top 55), defScope (top 55), [], []⟩, ["word", "most", "sign"], 2, ir19, false, none⟩,
  ⟨⟨("Lot", some "__init__"), "__init__", "Lot.__init__", defArgs (mth (top 9) 0), defBody (mth (top 9) 0), defScope (mth (top 9) 0), [.non, .int 0], []⟩, ["self", "members", "candidates", "price", "place"], 4, ir20, true, none⟩,
  ⟨⟨("_law_lot", none), "_law_lot", "_law_lot", defArgs (top 48), defBody (top 48), defScope (top 48), [], []⟩, ["row"], 1, ir21, false, none⟩,
  ⟨⟨("_law_lot_is", none), "_law_lot_is", "_law_lot_is", defArgs (top 49), defBody (top 49), defScope (top 49), [], []⟩, ["lot", "row"], 2, ir22, false, none⟩,
  ⟨⟨("Lot", some "__str__"), "__str__", "Lot.__str__", defArgs (mth (top 9) 14), defBody (mth (top 9) 14), defScope (mth (top 9) 14), [], []⟩, ["self", "parts", "place"], 1, ir23, false, none⟩,
  ⟨⟨("edit_with_one", none), "edit_with_one", "edit_with_one", defArgs (top 31), defBody (top 31), defScope (top 31), [], []⟩, ["word", "number"], 2, ir24, false, none⟩,
  ⟨⟨("edit_with_two", none), "edit_with_two", "edit_with_two", defArgs (top 32), defBody (top 32), defScope (top 32), [], []⟩, ["word", "serial", "place"], 3, ir25, false, none⟩,
  ⟨⟨("LotEdit", some "__init__"), "__init__", "LotEdit.__init__", defArgs (mth (top 18) 0), defBody (mth (top 18) 0), defScope (mth (top 18) 0), [], []⟩, ["self", "serial"], 2, ir26, false, none⟩,
  ⟨⟨("TellHead", some "__init__"), "__init__", "TellHead.__init__", defArgs (mth (top 22) 1), defBody (mth (top 22) 1), defScope (mth (top 22) 1), [], []⟩, ["self", "serial", "place"], 3, ir27, false, none⟩,
  ⟨⟨("LetJoin", some "__init__"), "__init__", "LetJoin.__init__", defArgs (mth (top 24) 1), defBody (mth (top 24) 1), defScope (mth (top 24) 1), [], []⟩, ["self", "serial", "place"], 3, ir28, false, none⟩,
  ⟨⟨("LetLeave", some "__init__"), "__init__", "LetLeave.__init__", defArgs (mth (top 25) 1), defBody (mth (top 25) 1), defScope (mth (top 25) 1), [], []⟩, ["self", "serial", "place"], 3, ir29, false, none⟩,
  ⟨⟨("PlaceEdit", some "__init__"), "__init__", "PlaceEdit.__init__", defArgs (mth (top 19) 0), defBody (mth (top 19) 0), defScope (mth (top 19) 0), [], []⟩, ["self", "place"], 2, ir30, false, none⟩,
  ⟨⟨("SetCount", some "__init__"), "__init__", "SetCount.__init__", defArgs (mth (top 26) 1), defBody (mth (top 26) 1), defScope (mth (top 26) 1), [], []⟩, ["self", "count"], 2, ir31, false, none⟩,
  ⟨⟨("AddLot", some "__init__"), "__init__", "AddLot.__init__", defArgs (mth (top 20) 1), defBody (mth (top 20) 1), defScope (mth (top 20) 1), [], []⟩, ["self", "lot"], 2, ir32, false, none⟩,
  ⟨⟨("Edit", some "label"), "label", "Edit.label", defArgs (mth (top 17) 1), defBody (mth (top 17) 1), defScope (mth (top 17) 1), [], []⟩, ["self"], 1, ir33, false, none⟩,
  ⟨⟨("LotEdit", some "label"), "label", "LotEdit.label", defArgs (mth (top 18) 1), defBody (mth (top 18) 1), defScope (mth (top 18) 1), [], []⟩, ["self", "__class__"], 1, ir34, false, some 10⟩,
  ⟨⟨("PlaceEdit", some "label"), "label", "PlaceEdit.label", defArgs (mth (top 19) 1), defBody (mth (top 19) 1), defScope (mth (top 19) 1), [], []⟩, ["self", "__class__"], 1, ir35, false, some 11⟩,
  ⟨⟨("AddLot", some "label"), "label", "AddLot.label", defArgs (mth (top 20) 2), defBody (mth (top 20) 2), defScope (mth (top 20) 2), [], []⟩, ["self", "__class__"], 1, ir36, false, some 8⟩,
  ⟨⟨("SetCount", some "label"), "label", "SetCount.label", defArgs (mth (top 26) 2), defBody (mth (top 26) 2), defScope (mth (top 26) 2), [], []⟩, ["self", "__class__"], 1, ir37, false, some 3⟩,
  ⟨⟨("lot_in", none), "lot_in", "lot_in", defArgs (top 15), defBody (top 15), defScope (top 15), [], []⟩, ["line", "size", "number", "words", "candidates", "price", "members", "index", "lot"], 3, ir38, false, none⟩,
  ⟨⟨("edit_in", none), "edit_in", "edit_in", defArgs (top 33), defBody (top 33), defScope (top 33), [], []⟩, ["text", "line", "words", "numbers", "edit", "word"], 2, ir39, false, none⟩,
  ⟨⟨("read_edit", none), "read_edit", "read_edit", defArgs (top 34), defBody (top 34), defScope (top 34), [], []⟩, ["text"], 1, ir40, false, none⟩,
  ⟨⟨("_law_made", none), "_law_made", "_law_made", defArgs (top 53), defBody (top 53), defScope (top 53), [], []⟩, ["deed"], 1, ir41, false, none⟩,
  ⟨⟨("_law_is", none), "_law_is", "_law_is", defArgs (top 54), defBody (top 54), defScope (top 54), [], []⟩, ["edit", "deed"], 2, ir42, false, none⟩,
  ⟨⟨("_law_lot_read", none), "_law_lot_read", "_law_lot_read", defArgs (top 56), defBody (top 56), defScope (top 56), [], []⟩, ["words", "parts", "at", "word", "group", "menu", "price", "wrong", "place", "k"], 1, ir43, false, none⟩,
  ⟨⟨("_law_reading", none), "_law_reading", "_law_reading", defArgs (top 57), defBody (top 57), defScope (top 57), [], []⟩, ["text", "words", "deed", "wanted", "numbers", "word"], 1, ir44, false, none⟩,
  ⟨⟨("_law_told", none), "_law_told", "_law_told", defArgs (top 58), defBody (top 58), defScope (top 58), [], []⟩, ["text", "e"], 1, ir45, false, none⟩,
  ⟨⟨("_law_stands", none), "_law_stands", "_law_stands", defArgs (top 59), defBody (top 59), defScope (top 59), [], []⟩, ["text", "deed", "told"], 1, ir46, false, none⟩,
  ⟨⟨("_law_spoilt", none), "_law_spoilt", "_law_spoilt", defArgs (top 60), defBody (top 60), defScope (top 60), [], []⟩, ["source", "text", "words", "kind", "at", "other", "some", "word", "one"], 2, ir47, false, none⟩,
  ⟨⟨("law", none), "law", "law", defArgs (top 61), defBody (top 61), defScope (top 61), [], []⟩, ["script", "source", "kind", "turn", "texts", "text", "deed"], 1, ir48, false, none⟩
]
def tb : Tbl where
  ds := rows
  cl := [⟨"Lot", ["members", "candidates", "price"], [("__str__", 23)], some 20, [], [0], []⟩, ⟨"DropLot", ["serial"], [("label", 34)], some 26, [("WORD", (.str "drop"))], [1, 10, 9], [((10, "label"), 33)]⟩, ⟨"ReleaseHead", ["serial"], [("label", 34)], some 26, [("WORD", (.str "release"))], [2, 10, 9], [((10, "label"), 33)]⟩, ⟨"SetCount", ["count"], [("label", 37)], some 31, [("WORD", (.str "count"))], [3, 9], [((3, "label"), 33)]⟩, ⟨"SetRoot", ["place"], [("label", 35)], some 30, [("WORD", (.str "root"))], [4, 11, 9], [((11, "label"), 33)]⟩, ⟨"TellHead", ["serial", "place"], [("label", 35)], some 27, [("WORD", (.str "tell"))], [5, 11, 10, 9], [((10, "label"), 33), ((11, "label"), 34)]⟩, ⟨"LetJoin", ["serial", "place"], [("label", 35)], some 28, [("WORD", (.str "join"))], [6, 11, 10, 9], [((10, "label"), 33), ((11, "label"), 34)]⟩, ⟨"LetLeave", ["serial", "place"], [("label", 35)], some 29, [("WORD", (.str "leave"))], [7, 11, 10, 9], [((10, "label"), 33), ((11, "label"), 34)]⟩, ⟨"AddLot", ["lot"], [("label", 36)], some 32, [("WORD", (.str "add"))], [8, 9], [((8, "label"), 33)]⟩, ⟨"Edit", [], [("label", 33)], none, [("WORD", (.str "edit"))], [9], []⟩, ⟨"LotEdit", ["serial"], [("label", 34)], none, [("WORD", (.str "edit"))], [10, 9], [((10, "label"), 33)]⟩, ⟨"PlaceEdit", ["place"], [("label", 35)], none, [("WORD", (.str "edit"))], [11, 9], [((11, "label"), 33)]⟩]
  xs := [⟨"NetworkError", [], false, [0]⟩, ⟨"InvalidLot", ["reason"], true, [1, 0]⟩, ⟨"InvalidLine", ["line"], true, [2, 0]⟩]
  gl := [("MOST_PLACES", .int 12), ("MOST_PRICE", .int 1000000000), ("DIGITS", .str "0123456789"), ("MOST_DIGITS", .int 10), ("MOST_FIGURES", .int 30)]
end K86
end
section
set_option maxHeartbeats 0
namespace K86
open PySem PySem.Spec PyProof.Rows L2 Lit
theorem run (w : World) : HandSHeadRun.RunEq R qv (hkT Pm tb) (obT Pm tb) 15000 names w := by
  intro os
  kernel_rfl
end K86
end
section
namespace Lit
open PySem L2
/-- the fields ns of an instance, their values vs -/
def FldR (ns : List Str) (fs : List (Str × V)) (vs : List V) : Prop :=
  ns.map (fun f => fs.lookup f) = vs.map some ∧ ∀ m, m ∉ ns → fs.lookup m = none
mutual
inductive Rp (T : Tb) (Hs : Hp) (ι : List Addr) : V → D → Prop
  | non : Rp T Hs ι .non .non
  | bl (b : Bool) : Rp T Hs ι (.bl b) (.bl b)
  | int (i : Int) : Rp T Hs ι (.int i) (.int i)
  | str (x : Str) : Rp T Hs ι (.str x) (.str x)
  | lst {a : Addr} {vs : List V} {xs : List D} : Hs a = some (.lst vs) → RpL T Hs ι vs xs → Rp T Hs ι (.ref a) (.lst xs)
  | tup {a : Addr} {vs : List V} {xs : List D} : Hs a = some (.tup vs) → RpL T Hs ι vs xs → Rp T Hs ι (.ref a) (.tup xs)
  | ins {a : Addr} {c : Nat} {dx : Addr} {fs : List (Str × V)} {vs : List V} {ds : List D} : Hs a = some (.ins (T.cad c) dx fs) → FldR (T.cfl c) fs vs → RpL T Hs ι vs ds → Rp T Hs ι (.ref a) (.ins c ds)
  | own {a : Addr} {n : Nat} : ι[n]? = some a → Rp T Hs ι (.ref a) (.own n)
  | scr {a : Addr} {ns : List Int} : SqL T.K Hs a (ns.map V.int) → Rp T Hs ι (.ref a) (.scr ns)
inductive RpL (T : Tb) (Hs : Hp) (ι : List Addr) : List V → List D → Prop
  | nil : RpL T Hs ι [] []
  | cons {v : V} {d : D} {vs : List V} {ds : List D} : Rp T Hs ι v d → RpL T Hs ι vs ds → RpL T Hs ι (v :: vs) (d :: ds)
end
section
variable {T : Tb} {Hs Hs' : Hp} {ι ι' : List Addr}
theorem pre_get {ι ι' : List Addr} (p : ι <+: ι') {n : Nat} {a : Addr} (h : ι[n]? = some a) : ι'[n]? = some a := by
  obtain ⟨t, rfl⟩ := p
  rw [List.getElem?_append_left (List.getElem?_eq_some_iff.mp h).1]
  exact h
mutual
theorem rp_up (e : Same Hs Hs') (p : ι <+: ι') : ∀ (d : D) (v : V), Rp T Hs ι v d → Rp T Hs' ι' v d
  | .non, _, .non => .non
  | .bl b, _, .bl _ => .bl b
  | .int i, _, .int _ => .int i
  | .str x, _, .str _ => .str x
  | .lst xs, _, .lst h r => .lst (e _ _ h) (rpl_up e p xs _ r)
  | .tup xs, _, .tup h r => .tup (e _ _ h) (rpl_up e p xs _ r)
  | .ins c fs, _, .ins h f r => .ins (e _ _ h) f (rpl_up e p fs _ r)
  | .own n, _, .own h => .own (pre_get p h)
  | .scr ns, _, .scr h => .scr (e.seq h)
theorem rpl_up (e : Same Hs Hs') (p : ι <+: ι') : ∀ (ds : List D) (vs : List V), RpL T Hs ι vs ds → RpL T Hs' ι' vs ds
  | [], _, .nil => .nil
  | d :: ds, _, .cons h r => .cons (rp_up e p d _ h) (rpl_up e p ds _ r)
end
theorem Rp.up {v : V} {d : D} (h : Rp T Hs ι v d) (e : Same Hs Hs') (p : ι <+: ι') : Rp T Hs' ι' v d := rp_up e p d v h
theorem RpL.up {v : List V} {d : List D} (h : RpL T Hs ι v d) (e : Same Hs Hs') (p : ι <+: ι') : RpL T Hs' ι' v d := rpl_up e p d v h
theorem RpL.length : ∀ {vs : List V} {ds : List D}, RpL T Hs ι vs ds → vs.length = ds.length
  | _, _, .nil => rfl
  | _, _, .cons _ r => congrArg Nat.succ r.length
theorem RpL.get : ∀ {vs : List V} {ds : List D} {i : Nat} {d : D}, RpL T Hs ι vs ds → ds[i]? = some d → ∃ v, vs[i]? = some v ∧ Rp T Hs ι v d
  | _, _, _, _, .nil, e => by simp at e
  | _, _, 0, _, .cons h _, e => by simp at e; subst e; exact ⟨_, rfl, h⟩
  | _, _, i + 1, _, .cons _ r, e => by
    obtain ⟨v, h1, h2⟩ := RpL.get (i := i) r (by simpa using e)
    exact ⟨v, by simpa using h1, h2⟩
theorem RpL.app : ∀ {vs ws : List V} {ds es : List D}, RpL T Hs ι vs ds → RpL T Hs ι ws es → RpL T Hs ι (vs ++ ws) (ds ++ es)
  | _, _, _, _, .nil, s => s
  | _, _, _, _, .cons h r, s => .cons h (r.app s)
theorem RpL.take : ∀ {vs : List V} {ds : List D} (n : Nat), RpL T Hs ι vs ds → RpL T Hs ι (vs.take n) (ds.take n)
  | _, _, 0, _ => .nil
  | _, _, _ + 1, .nil => .nil
  | _, _, n + 1, .cons h r => .cons h (r.take n)
theorem RpL.drop : ∀ {vs : List V} {ds : List D} (n : Nat), RpL T Hs ι vs ds → RpL T Hs ι (vs.drop n) (ds.drop n)
  | _, _, 0, r => r
  | _, _, _ + 1, .nil => .nil
  | _, _, n + 1, .cons _ r => r.drop n
theorem RpL.set : ∀ {vs : List V} {ds : List D} {v : V} {d : D} (n : Nat), RpL T Hs ι vs ds → Rp T Hs ι v d → RpL T Hs ι (vs.set n v) (ds.set n d)
  | _, _, _, _, _, .nil, _ => .nil
  | _, _, _, _, 0, .cons _ r, q => .cons q r
  | _, _, _, _, n + 1, .cons h r, q => .cons h (r.set n q)
theorem RpL.erase : ∀ {vs : List V} {ds : List D} (n : Nat), RpL T Hs ι vs ds → RpL T Hs ι (vs.eraseIdx n) (ds.eraseIdx n)
  | _, _, _, .nil => .nil
  | _, _, 0, .cons _ r => r
  | _, _, n + 1, .cons h r => .cons h (r.erase n)
theorem RpL.ints {ns : List Int} : RpL T Hs ι (ns.map V.int) (ns.map D.int) := by
  induction ns with
  | nil => exact .nil
  | cons n r ih => exact .cons (.int n) ih
theorem RpL.strs {ns : List Str} : RpL T Hs ι (ns.map V.str) (ns.map D.str) := by
  induction ns with
  | nil => exact .nil
  | cons n r ih => exact .cons (.str n) ih
theorem RpL.of_ints : ∀ {ns : List Int} {vs : List V}, RpL T Hs ι vs (ns.map D.int) → vs = ns.map V.int
  | [], _, .nil => rfl
  | n :: ns, _, .cons (.int _) r => by rw [List.map_cons, ← RpL.of_ints r]
theorem RpL.of_strs : ∀ {ns : List Str} {vs : List V}, RpL T Hs ι vs (ns.map D.str) → vs = ns.map V.str
  | [], _, .nil => rfl
  | n :: ns, _, .cons (.str _) r => by rw [List.map_cons, ← RpL.of_strs r]
end
inductive Cell where
  | lst (xs : List D)
  | ins (c : Nat) (fs : List (Str × D))
inductive Sl where
  | no | sh (d : D) | mu (xs : List D)
structure Stt where
  env : List Sl
  cs : List Cell
def FdP (T : Tb) (Hs : Hp) (ι : List Addr) : List (Str × V) → List (Str × D) → Prop :=
  Paired fun p q => p.1 = q.1 ∧ Rp T Hs ι p.2 q.2
def CellR (T : Tb) (Hs H : Hp) (ι : List Addr) (a : Addr) : Cell → Prop
  | .lst xs => ∃ vs, H a = some (.lst vs) ∧ RpL T Hs ι vs xs
  | .ins c fs => ∃ dx gs, H a = some (.ins (T.cad c) dx gs) ∧ FdP T Hs ι gs fs
theorem FdP.up {T : Tb} {Hs Hs' : Hp} {ι ι' : List Addr} (e : Same Hs Hs') (p : ι <+: ι') : ∀ {gs : List (Str × V)} {fs : List (Str × D)}, FdP T Hs ι gs fs → FdP T Hs' ι' gs fs
  | _, _, .nil => .nil
  | _, _, .cons h r => .cons ⟨h.1, h.2.up e p⟩ (FdP.up e p r)
/-- a frame: the heap, the cells, the shared part at the entry -/
structure Fr where
  H0 : Hp
  i0 : List Addr
  s0 : Hp
  /-- lists under way that nothing here touches -/
  kp : List (Addr × HO) := []
/-- the store: the cells cs stand at ι, what is shared stands in Hs and never changes -/
structure SR (T : Tb) (F : Fr) (ι : List Addr) (Hs H : Hp) (cs : List Cell) : Prop where
  sub : Same Hs H
  pre : F.i0 <+: ι
  f1 : ∀ a o, F.H0 a = some o → a ∉ F.i0 → H a = some o
  f2 : ∀ a o, Hs a = some o → F.s0 a = some o ∨ F.H0 a = none
  grow : Same F.s0 Hs
  inj : ι.Nodup
  io : ∀ a ∈ ι, Hs a = none
  inew : ∀ a ∈ ι, a ∈ F.i0 ∨ F.H0 a = none
  len : ι.length = cs.length
  cell : ∀ (n : Nat) (a : Addr) (c : Cell), ι[n]? = some a → cs[n]? = some c → CellR T Hs H ι a c
  kept : ∀ q ∈ F.kp, H q.1 = some q.2 ∧ Hs q.1 = none ∧ F.H0 q.1 = none ∧ q.1 ∉ ι
def SlR (T : Tb) (F : Fr) (ι : List Addr) (Hs H : Hp) (o : Option (Option V)) : Sl → Prop
  | .no => True
  | .sh d => ∃ v, o = some (some v) ∧ Rp T Hs ι v d
  | .mu xs => ∃ p vs, o = some (some (.ref p)) ∧ Hs p = none ∧ F.H0 p = none ∧ p ∉ ι ∧ H p = some (.lst vs) ∧ RpL T Hs ι vs xs
structure ER (T : Tb) (F : Fr) (ι : List Addr) (Hs H : Hp) (σ : L2.St) (env : List Sl) : Prop where
  len : σ.length = env.length
  at_ : ∀ (i : Nat) (s : Sl), env[i]? = some s → SlR T F ι Hs H σ[i]? s
  dj : ∀ (i j : Nat) (xs ys : List D) (p : Addr), env[i]? = some (.mu xs) → env[j]? = some (.mu ys) → σ[i]? = some (some (.ref p)) → σ[j]? = some (some (.ref p)) → i = j
  kp : ∀ q ∈ F.kp, ∀ (i : Nat) (ys : List D), env[i]? = some (.mu ys) → σ[i]? ≠ some (some (.ref q.1))
structure Rel (T : Tb) (F : Fr) (ι : List Addr) (Hs H : Hp) (σ : L2.St) (st : Stt) : Prop where
  s : SR T F ι Hs H st.cs
  e : ER T F ι Hs H σ st.env
section
variable {T : Tb} {F : Fr} {ι ι' : List Addr} {Hs Hs' H H' : Hp} {cs cs' : List Cell} {σ : L2.St} {env : List Sl}
theorem CellR.some {a : Addr} {c : Cell} (h : CellR T Hs H ι a c) : H a ≠ none := by
  cases c with
  | lst xs => obtain ⟨vs, e, _⟩ := h; rw [e]; exact nofun
  | ins c fs => obtain ⟨dx, gs, e, _⟩ := h; rw [e]; exact nofun
theorem SR.owned (R : SR T F ι Hs H cs) {a : Addr} (h : a ∈ ι) : H a ≠ none := by
  obtain ⟨n, hn, e⟩ := List.mem_iff_getElem.mp h
  have hc : n < cs.length := by rw [← R.len]; exact hn
  exact (R.cell n a cs[n] (by rw [List.getElem?_eq_getElem hn, e]) (List.getElem?_eq_getElem hc)).some
/-- what H does not track is new to all -/
theorem SR.fresh (R : SR T F ι Hs H cs) {p : Addr} (h : H p = none) : Hs p = none ∧ F.H0 p = none ∧ p ∉ ι := by
  have hi : p ∉ ι := fun q => R.owned q h
  refine ⟨?_, ?_, hi⟩
  · cases q : Hs p with
    | none => rfl
    | some o => rw [R.sub p o q] at h; cases h
  · cases q : F.H0 p with
    | none => rfl
    | some o =>
      by_cases m : p ∈ F.i0
      · exact absurd (R.pre.subset m) hi
      · rw [R.f1 p o q m] at h; cases h
theorem CellR.up {a : Addr} {c : Cell} (h : CellR T Hs H ι a c) (e : Same Hs Hs') (p : ι <+: ι') (k : H' a = H a) : CellR T Hs' H' ι' a c := by
  cases c with
  | lst xs => obtain ⟨vs, e1, r⟩ := h; exact ⟨vs, k.trans e1, r.up e p⟩
  | ins c fs => obtain ⟨dx, gs, e1, r⟩ := h; exact ⟨dx, gs, k.trans e1, r.up e p⟩
/-- the frame of a step from here -/
abbrev here (H : Hp) (ι : List Addr) (Hs : Hp) : Fr := ⟨H, ι, Hs, []⟩
theorem nokp {H : Hp} {ι : List Addr} {Hs : Hp} {C : Addr × HO → Prop} : ∀ q ∈ (here H ι Hs).kp, C q := fun q hq => absurd (show q ∈ ([] : List (Addr × HO)) from hq) (by simp)
theorem SR.start (R : SR T F ι Hs H cs) : SR T (here H ι Hs) ι Hs H cs :=
  ⟨R.sub, List.prefix_refl _, fun _ _ h _ => h, fun _ _ h => .inl h, Same.refl _, R.inj, R.io, fun _ h => .inl h, R.len, R.cell, nokp⟩
/-- a step from here is a step of the frame -/
theorem SR.step (R : SR T F ι Hs H cs) (Q : SR T (here H ι Hs) ι' Hs' H' cs') : SR T F ι' Hs' H' cs' where
  sub := Q.sub
  pre := R.pre.trans Q.pre
  f1 := fun a o h hi => by
    have h1 := R.f1 a o h hi
    refine Q.f1 a o h1 fun m => ?_
    rcases R.inew a m with z | z
    · exact hi z
    · rw [h] at z; cases z
  f2 := fun a o h => by
    rcases Q.f2 a o h with z | z
    · exact R.f2 a o z
    · exact .inr (R.fresh z).2.1
  grow := R.grow.trans Q.grow
  inj := Q.inj
  io := Q.io
  inew := fun a h => by
    rcases Q.inew a h with z | z
    · exact R.inew a z
    · exact .inr (R.fresh z).2.1
  len := Q.len
  cell := Q.cell
  kept := fun q hq => by
    obtain ⟨h1, h2, h3, h4⟩ := R.kept q hq
    refine ⟨Q.f1 q.1 _ h1 h4, ?_, h3, fun m => ?_⟩
    · cases e : Hs' q.1 with
      | none => rfl
      | some o =>
        rcases Q.f2 q.1 o e with z | z
        · rw [show Hs q.1 = some o from z] at h2; cases h2
        · rw [show H q.1 = none from z] at h1; cases h1
    · rcases Q.inew q.1 m with z | z
      · exact h4 z
      · rw [show H q.1 = none from z] at h1; cases h1
theorem ER.step (R : SR T F ι Hs H cs) (E : ER T F ι Hs H σ env) (Q : SR T (here H ι Hs) ι' Hs' H' cs') : ER T F ι' Hs' H' σ env where
  len := E.len
  dj := E.dj
  kp := E.kp
  at_ := fun i s h => by
    have z := E.at_ i s h
    cases s with
    | no => trivial
    | sh d => obtain ⟨v, e, r⟩ := z; exact ⟨v, e, r.up Q.grow Q.pre⟩
    | mu xs =>
      obtain ⟨p, vs, e, h1, h2, h3, h4, r⟩ := z
      refine ⟨p, vs, e, ?_, h2, ?_, Q.f1 p _ h4 h3, r.up Q.grow Q.pre⟩
      · cases q : Hs' p with
        | none => rfl
        | some o =>
          rcases Q.f2 p o q with z | z
          · rw [show Hs p = some o from z] at h1; cases h1
          · rw [show H p = none from z] at h4; cases h4
      · intro m
        rcases Q.inew p m with z | z
        · exact h3 z
        · rw [show H p = none from z] at h4; cases h4
theorem Rel.step {st : Stt} (R : Rel T F ι Hs H σ st) (Q : SR T (here H ι Hs) ι' Hs' H' cs') : Rel T F ι' Hs' H' σ { st with cs := cs' } :=
  ⟨R.s.step Q, R.e.step R.s Q⟩
/-- nothing but new things: shared ones among them -/
theorem SR.ext (R : SR T F ι Hs H cs) (h1 : Same H H') (h2 : Same Hs Hs') (h3 : Same Hs' H') (h4 : ∀ a o, Hs' a = some o → Hs a = some o ∨ H a = none) : SR T (here H ι Hs) ι Hs' H' cs where
  sub := h3
  pre := List.prefix_refl _
  f1 := fun a o h _ => h1 a o h
  f2 := h4
  grow := h2
  inj := R.inj
  io := fun a m => by
    cases q : Hs' a with
    | none => rfl
    | some o =>
      rcases h4 a o q with z | z
      · rw [R.io a m] at z; cases z
      · exact absurd z (R.owned m)
  inew := fun a m => .inl m
  len := R.len
  cell := fun n a c e1 e2 => by
    have z := R.cell n a c e1 e2
    refine z.up h2 (List.prefix_refl _) ?_
    cases q : H a with
    | none => exact absurd q z.some
    | some o => exact h1 a o q
  kept := nokp
theorem same_upd {H : Hp} {p : Addr} {o : HO} (h : H p = none) : Same H (upd H p o) := fun a u e => by
  rw [upd_ne (ne_of_none e h)]
  exact e
theorem same_upd2 {Hs H : Hp} {p : Addr} {o : HO} (e : Same Hs H) : Same (upd Hs p o) (upd H p o) := fun a u q => by
  by_cases h : a = p
  · subst h; rw [upd_same] at q ⊢; exact q
  · rw [upd_ne h] at q ⊢; exact e a u q
/-- a new object that is shared at once -/
theorem SR.alloc (R : SR T F ι Hs H cs) {p : Addr} {o : HO} (h : H p = none) : SR T (here H ι Hs) ι (upd Hs p o) (upd H p o) cs :=
  R.ext (same_upd h) (same_upd (R.fresh h).1) (same_upd2 R.sub) fun a u q => by
    by_cases e : a = p
    · exact .inr (e ▸ h)
    · rw [upd_ne e] at q; exact .inl q
/-- a new object that is not shared yet -/
theorem SR.allocN (R : SR T F ι Hs H cs) {p : Addr} {o : HO} (h : H p = none) : SR T (here H ι Hs) ι Hs (upd H p o) cs :=
  R.ext (same_upd h) (Same.refl _) (R.sub.trans (same_upd h)) fun a u q => .inl q
theorem Rel.alloc {st : Stt} (R : Rel T F ι Hs H σ st) {p : Addr} {o : HO} (h : H p = none) : Rel T F ι (upd Hs p o) (upd H p o) σ st := R.step (R.s.alloc h)
theorem Rel.allocN {st : Stt} (R : Rel T F ι Hs H σ st) {p : Addr} {o : HO} (h : H p = none) : Rel T F ι Hs (upd H p o) σ st := R.step (R.s.allocN h)
end
inductive Rv where
  | sh (d : D) | fr (xs : List D) | rf (i : Nat)
def RpR (T : Tb) (F : Fr) (ι : List Addr) (Hs H : Hp) (σ : L2.St) (st : Stt) (v : V) : Rv → Prop
  | .sh d => Rp T Hs ι v d
  | .fr xs => ∃ p vs, v = .ref p ∧ Hs p = none ∧ F.H0 p = none ∧ p ∉ ι ∧ H p = some (.lst vs) ∧ RpL T Hs ι vs xs ∧ (∀ (i : Nat) (ys : List D), st.env[i]? = some (Sl.mu ys) → σ[i]? ≠ some (some (V.ref p))) ∧ ∀ q ∈ F.kp, q.1 ≠ p
  | .rf i => σ[i]? = some (some v)
section
variable {T : Tb} {F : Fr} {ι ι' : List Addr} {Hs Hs' H H' : Hp} {σ : L2.St} {st : Stt}
/-- an unshared list at p becomes shared -/
theorem Rel.share (Q : Rel T F ι Hs H σ st) {p : Addr} {o : HO} (h1 : Hs p = none) (h2 : F.H0 p = none) (h3 : p ∉ ι) (h4 : H p = some o) (h5 : ∀ (i : Nat) (ys : List D), st.env[i]? = some (Sl.mu ys) → σ[i]? ≠ some (some (V.ref p))) (h6 : ∀ q ∈ F.kp, q.1 ≠ p) :
    Rel T F ι (upd Hs p o) H σ st := by
  have e : Same Hs (upd Hs p o) := same_upd h1
  have e2 : Same (upd Hs p o) H := fun a u q => by
    by_cases z : a = p
    · subst z; rw [upd_same] at q; rw [h4]; exact q
    · rw [upd_ne z] at q; exact Q.s.sub a u q
  refine ⟨⟨e2, Q.s.pre, Q.s.f1, fun a u q => ?_, Q.s.grow.trans e, Q.s.inj, fun a m => ?_, Q.s.inew, Q.s.len, fun n a c a1 a2 => (Q.s.cell n a c a1 a2).up e (List.prefix_refl _) rfl, fun q hq => ?_⟩, ⟨Q.e.len, fun i s z => ?_, Q.e.dj, Q.e.kp⟩⟩
  · by_cases z : a = p
    · exact .inr (z ▸ h2)
    · rw [upd_ne z] at q; exact Q.s.f2 a u q
  · rw [upd_ne (fun z : a = p => h3 (z ▸ m))]; exact Q.s.io a m
  · obtain ⟨k1, k2, k3, k4⟩ := Q.s.kept q hq
    exact ⟨k1, by rw [upd_ne (h6 q hq)]; exact k2, k3, k4⟩
  · have y := Q.e.at_ i s z
    cases s with
    | no => trivial
    | sh d => obtain ⟨v, a, r⟩ := y; exact ⟨v, a, r.up e (List.prefix_refl _)⟩
    | mu xs =>
      obtain ⟨q, vs, a, b1, b2, b3, b4, r⟩ := y
      refine ⟨q, vs, a, ?_, b2, b3, b4, r.up e (List.prefix_refl _)⟩
      have ne : q ≠ p := fun z' => h5 i xs z (z' ▸ a)
      rw [upd_ne ne]; exact b1
end
end Lit
end
section
namespace Lit
open PySem L2
structure Exc where
  c : Nat
  fs : List D
inductive Out (α : Type) where
  | ok (a : α) (s : Stt) | exc (x : Exc) (s : Stt) | bad
def Out.bind {α β : Type} (o : Out α) (k : α → Stt → Out β) : Out β := match o with
  | .ok a s => k a s
  | .exc x s => .exc x s
  | .bad => .bad
@[simp] theorem Out.bind_ok {α β : Type} (a : α) (s : Stt) (k : α → Stt → Out β) : (Out.ok a s).bind k = k a s := rfl
@[simp] theorem Out.bind_exc {α β : Type} (x : Exc) (s : Stt) (k : α → Stt → Out β) : (Out.exc x s : Out α).bind k = .exc x s := rfl
@[simp] theorem Out.bind_bad {α β : Type} (k : α → Stt → Out β) : (Out.bad : Out α).bind k = .bad := rfl
def ofOpt {α : Type} (o : Option α) (s : Stt) : Out α := match o with
  | some a => .ok a s
  | none => .bad
@[simp] theorem ofOpt_some {α : Type} (a : α) (s : Stt) : ofOpt (some a) s = .ok a s := rfl
@[simp] theorem ofOpt_none {α : Type} (s : Stt) : (ofOpt none s : Out α) = .bad := rfl
def ExcR (T : Tb) (Hs : Hp) (ι : List Addr) (cls : Value) (d : Option Addr) (x : Exc) : Prop :=
  cls = .ref (T.xad x.c) ∧ (x.fs = [] → d = none) ∧ (x.fs ≠ [] → ∃ dd fs vs, d = some dd ∧ Hs dd = some (.xd fs) ∧ FldR (T.xfl x.c) fs vs ∧ RpL T Hs ι vs x.fs)
/-- what a computation's outcome o, from ι and Hs, asks of the end -/
def Post {α β : Type} (T : Tb) (F : Fr) (W : WX) (σ : L2.St) (rep : List Addr → Hp → Hp → Stt → β → α → Prop) (ι : List Addr) (Hs : Hp) (o : Out α) (Q : β → Hp → Prop) : Prop := match o with
  | .ok a st => ∀ ι' Hs' H' b, ι <+: ι' → Same Hs Hs' → Rel T F ι' Hs' H' σ st → rep ι' Hs' H' st b a → Q b H'
  | .exc x st => ∀ ι' Hs' H' cls d, ι <+: ι' → Same Hs Hs' → Rel T F ι' Hs' H' σ st → ExcR T Hs' ι' cls d x → W cls d σ H'
  | .bad => False
def Tm {α β : Type} (T : Tb) (F : Fr) (W : WX) (rep : L2.St → List Addr → Hp → Hp → Stt → β → α → Prop) (f : Stt → Out α) : L2.St → Hp → (β → Hp → Prop) → Prop :=
  fun σ H Q => ∃ ι Hs st, Rel T F ι Hs H σ st ∧ Post T F W σ (rep σ) ι Hs (f st) Q
section
variable {α β γ δ : Type} {T : Tb} {F : Fr} {W : WX} {σ : L2.St} {ι ι' : List Addr} {Hs Hs' H : Hp} {st : Stt}
theorem Post.up {rep : List Addr → Hp → Hp → Stt → β → α → Prop} {o : Out α} {Q : β → Hp → Prop} (h : Post T F W σ rep ι Hs o Q) (p : ι <+: ι') (e : Same Hs Hs') : Post T F W σ rep ι' Hs' o Q := by
  cases o with
  | ok a s => exact fun ι2 Hs2 H2 b q1 q2 => h ι2 Hs2 H2 b (p.trans q1) (e.trans q2)
  | exc x s => exact fun ι2 Hs2 H2 cls d q1 q2 => h ι2 Hs2 H2 cls d (p.trans q1) (e.trans q2)
  | bad => exact h
/-- two steps: the first one's end goes on with the second -/
theorem Post.first {rep : L2.St → List Addr → Hp → Hp → Stt → β → α → Prop} {rep' : List Addr → Hp → Hp → Stt → δ → γ → Prop} {f : Stt → Out α} {k : α → Stt → Out γ} {Q : δ → Hp → Prop} {Q1 : β → Hp → Prop}
    (R : Rel T F ι Hs H σ st) (h : Post T F W σ rep' ι Hs ((f st).bind k) Q)
    (hk : ∀ ι1 Hs1 H1 st1 b a, ι <+: ι1 → Same Hs Hs1 → Rel T F ι1 Hs1 H1 σ st1 → rep σ ι1 Hs1 H1 st1 b a → Post T F W σ rep' ι1 Hs1 (k a st1) Q → Q1 b H1) : Tm T F W rep f σ H Q1 := by
  refine ⟨ι, Hs, st, R, ?_⟩
  cases e : f st with
  | ok a s =>
    rw [e] at h
    exact fun ι1 Hs1 H1 b q1 q2 R1 r => hk ι1 Hs1 H1 s b a q1 q2 R1 r (h.up q1 q2)
  | exc x s =>
    rw [e] at h
    exact h
  | bad =>
    rw [e] at h
    exact h
theorem Post.done {rep : List Addr → Hp → Hp → Stt → β → α → Prop} {a : α} {Q : β → Hp → Prop} (h : Post T F W σ rep ι Hs (.ok a st) Q) (R : Rel T F ι Hs H σ st) {b : β} (r : rep ι Hs H st b a) : Q b H :=
  h ι Hs H b (List.prefix_refl _) (Same.refl _) R r
end
abbrev rE (T : Tb) (F : Fr) : L2.St → List Addr → Hp → Hp → Stt → V → Rv → Prop := fun σ ι Hs H st v r => RpR T F ι Hs H σ st v r
abbrev rD (T : Tb) : L2.St → List Addr → Hp → Hp → Stt → V → D → Prop := fun _ ι Hs _ _ v d => Rp T Hs ι v d
abbrev rA (T : Tb) : L2.St → List Addr → Hp → Hp → Stt → List V → List D → Prop := fun _ ι Hs _ _ v d => RpL T Hs ι v d
abbrev rB : L2.St → List Addr → Hp → Hp → Stt → Bool → Bool → Prop := fun _ _ _ _ _ b c => b = c
abbrev TE' (T : Tb) (F : Fr) (W : WX) (f : Stt → Out Rv) : TE := Tm T F W (rE T F) f
abbrev TA' (T : Tb) (F : Fr) (W : WX) (f : Stt → Out (List D)) : TA := Tm T F W (rA T) f
abbrev TT' (T : Tb) (F : Fr) (W : WX) (f : Stt → Out Bool) : TT := Tm T F W rB f
/-- shared from now on -/
def setl : Rv → Rv
  | .fr xs => .sh (.lst xs)
  | r => r
def capR (r : Rv) (st : Stt) : Option (D × Stt) := match r with
  | .sh d => some (d, st)
  | .fr xs => some (.lst xs, st)
  | .rf i => match st.env[i]? with
    | some (.sh d) => some (d, st)
    | some (.mu xs) => some (.lst xs, { st with env := st.env.set i (.sh (.lst xs)) })
    | _ => none
def cellV (cs : List Cell) : D → Option D
  | .own n => match cs[n]? with
    | some (.lst xs) => some (.lst xs)
    | some (.ins _ _) => some (.own n)
    | none => none
  | d => some d
def view (st : Stt) : Rv → Option D
  | .sh d => cellV st.cs d
  | .fr xs => some (.lst xs)
  | .rf i => match st.env[i]? with
    | some (.sh d) => cellV st.cs d
    | some (.mu xs) => some (.lst xs)
    | _ => none
/-- read through H at the top, through Hs below -/
def RpT (T : Tb) (Hs H : Hp) (ι : List Addr) (v : V) : D → Prop
  | .lst xs => ∃ a vs, v = .ref a ∧ H a = some (.lst vs) ∧ RpL T Hs ι vs xs
  | d => Rp T Hs ι v d
/-- what an operation from H hands back -/
def NewR (T : Tb) (ι : List Addr) (H Hs' H' : Hp) (z : V) : Rv → Prop
  | .sh d => Rp T Hs' ι z d
  | .fr xs => ∃ p vs, z = .ref p ∧ H p = none ∧ Hs' p = none ∧ H' p = some (.lst vs) ∧ RpL T Hs' ι vs xs
  | .rf _ => False
section
variable {T : Tb} {F : Fr} {W : WX} {σ : L2.St} {ι ι' : List Addr} {Hs Hs' H H' : Hp} {st : Stt} {cs : List Cell}
theorem Rp.top (e : Same Hs H) : ∀ {d : D} {v : V}, Rp T Hs ι v d → RpT T Hs H ι v d
  | .lst xs, _, .lst h r => ⟨_, _, rfl, e _ _ h, r⟩
  | .tup _, _, h => h
  | .non, _, h => h
  | .bl _, _, h => h
  | .int _, _, h => h
  | .str _, _, h => h
  | .ins _ _, _, h => h
  | .own _, _, h => h
  | .scr _, _, h => h
theorem SR.cellV (Q : SR T F ι Hs H cs) {v : V} {d d' : D} (h : Rp T Hs ι v d) (e : cellV cs d = some d') : RpT T Hs H ι v d' := by
  cases d with
  | own n =>
    have h0 := h
    cases h with
    | own hi =>
    cases hc : cs[n]? with
    | none => simp [Lit.cellV, hc] at e
    | some c =>
      cases c with
      | lst xs =>
        simp [Lit.cellV, hc] at e
        subst e
        obtain ⟨vs, e1, r⟩ := Q.cell n _ _ hi hc
        exact ⟨_, vs, rfl, e1, r⟩
      | ins c fs =>
        simp [Lit.cellV, hc] at e
        subst e
        exact h0
  | _ =>
    simp only [Lit.cellV, Option.some.injEq] at e
    subst e
    exact h.top Q.sub
/-- a settled value -/
theorem Rel.settle (Q : Rel T F ι Hs H σ st) {v : V} {r : Rv} (h : RpR T F ι Hs H σ st v r) : ∃ Hs', Same Hs Hs' ∧ Rel T F ι Hs' H σ st ∧ RpR T F ι Hs' H σ st v (setl r) := by
  cases r with
  | sh d => exact ⟨Hs, Same.refl _, Q, h⟩
  | rf i => exact ⟨Hs, Same.refl _, Q, h⟩
  | fr xs =>
    obtain ⟨p, vs, rfl, h1, h2, h3, h4, r, h5, h6⟩ := h
    have e : Same Hs (upd Hs p (.lst vs)) := same_upd h1
    exact ⟨_, e, Q.share h1 h2 h3 h4 h5 h6, .lst upd_same (r.up e (List.prefix_refl _))⟩
/-- what is settled stays -/
theorem RpR.stay {v : V} {r : Rv} (h : RpR T F ι Hs H σ st v (setl r)) (p : ι <+: ι') (e : Same Hs Hs') {H' : Hp} {st' : Stt} : RpR T F ι' Hs' H' σ st' v (setl r) := by
  cases r with
  | sh d => exact Rp.up (show Rp T Hs ι v d from h) e p
  | rf i => exact h
  | fr xs => exact Rp.up (show Rp T Hs ι v (.lst xs) from h) e p
theorem Rel.view (Q : Rel T F ι Hs H σ st) {v : V} {r : Rv} {d : D} (h : RpR T F ι Hs H σ st v r) (e : view st r = some d) : RpT T Hs H ι v d := by
  cases r with
  | sh d => exact Q.s.cellV h e
  | fr xs =>
    cases (Option.some.inj (show some (D.lst xs) = some d from e))
    obtain ⟨p, vs, rfl, h1, h2, h3, h4, r, h5, _⟩ := h
    exact ⟨p, vs, rfl, h4, r⟩
  | rf i =>
    have h : σ[i]? = some (some v) := h
    cases hi : st.env[i]? with
    | none => simp [Lit.view, hi] at e
    | some s =>
      have z := Q.e.at_ i s hi
      cases s with
      | no => simp [Lit.view, hi] at e
      | sh d1 =>
        obtain ⟨w, e1, r⟩ := z
        rw [h] at e1
        cases e1
        simp only [Lit.view, hi] at e
        exact Q.s.cellV r e
      | mu xs =>
        obtain ⟨p, vs, e1, h1, h2, h3, h4, r⟩ := z
        rw [h] at e1
        cases e1
        simp only [Lit.view, hi, Option.some.injEq] at e
        subst e
        exact ⟨p, vs, rfl, h4, r⟩
theorem env_set_sh {env : List Sl} {i : Nat} {xs ys : List D} {j : Nat} (h : (env.set i (.sh (.lst xs)))[j]? = some (.mu ys)) : j ≠ i ∧ env[j]? = some (.mu ys) := by
  by_cases e : i = j
  · subst e
    rw [List.getElem?_set_self'] at h
    cases q : env[i]? with
    | none => rw [q] at h; cases h
    | some s => rw [q] at h; cases h
  · rw [List.getElem?_set_ne e] at h
    exact ⟨fun z => e z.symm, h⟩
/-- captured: shared data -/
theorem Rel.cap (Q : Rel T F ι Hs H σ st) {v : V} {r : Rv} {d : D} {st' : Stt} (h : RpR T F ι Hs H σ st v r) (e : capR r st = some (d, st')) : ∃ Hs', Same Hs Hs' ∧ Rel T F ι Hs' H σ st' ∧ Rp T Hs' ι v d := by
  cases r with
  | sh d1 =>
    cases (Option.some.inj (show some (d1, st) = some (d, st') from e))
    exact ⟨Hs, Same.refl _, Q, h⟩
  | fr xs =>
    cases (Option.some.inj (show some (D.lst xs, st) = some (d, st') from e))
    obtain ⟨Hs', e1, Q1, r⟩ := Q.settle h
    exact ⟨Hs', e1, Q1, r⟩
  | rf i =>
    have h : σ[i]? = some (some v) := h
    cases hi : st.env[i]? with
    | none => simp [capR, hi] at e
    | some s =>
      have z := Q.e.at_ i s hi
      cases s with
      | no => simp [capR, hi] at e
      | sh d1 =>
        obtain ⟨w, e1, r⟩ := z
        rw [h] at e1
        cases e1
        simp only [capR, hi, Option.some.injEq, Prod.mk.injEq] at e
        obtain ⟨rfl, rfl⟩ := e
        exact ⟨Hs, Same.refl _, Q, r⟩
      | mu xs =>
        obtain ⟨p, vs, e1, h1, h2, h3, h4, r⟩ := z
        rw [h] at e1
        cases e1
        simp only [capR, hi, Option.some.injEq, Prod.mk.injEq] at e
        obtain ⟨rfl, rfl⟩ := e
        have e2 : Same Hs (upd Hs p (.lst vs)) := same_upd h1
        -- first the slot is no longer its owner, then the list is shared
        have hlt : i < st.env.length := (List.getElem?_eq_some_iff.mp hi).1
        have e3 : Same (upd Hs p (.lst vs)) H := fun a u q => by
          by_cases z : a = p
          · subst z; rw [upd_same] at q; rw [h4]; exact q
          · rw [upd_ne z] at q; exact Q.s.sub a u q
        refine ⟨_, e2, ⟨⟨e3, Q.s.pre, Q.s.f1, fun a u q => ?_, Q.s.grow.trans e2, Q.s.inj, fun a m => ?_, Q.s.inew, Q.s.len, fun n a c a1 a2 => (Q.s.cell n a c a1 a2).up e2 (List.prefix_refl _) rfl, fun q hq => ?_⟩, ⟨by rw [List.length_set]; exact Q.e.len, fun j s z => ?_, fun j k ys zs q a1 a2 b1 b2 => ?_, fun q hq j ys a1 => ?_⟩⟩, .lst upd_same (r.up e2 (List.prefix_refl _))⟩
        · by_cases z : a = p
          · exact .inr (z ▸ h2)
          · rw [upd_ne z] at q; exact Q.s.f2 a u q
        · rw [upd_ne (fun z : a = p => h3 (z ▸ m))]; exact Q.s.io a m
        · obtain ⟨k1, k2, k3, k4⟩ := Q.s.kept q hq
          exact ⟨k1, by rw [upd_ne (fun z : q.1 = p => Q.e.kp q hq i xs hi (by rw [z]; exact h))]; exact k2, k3, k4⟩
        · by_cases ej : i = j
          · subst ej
            rw [List.getElem?_set_self hlt] at z
            cases z
            exact ⟨_, h, .lst upd_same (r.up e2 (List.prefix_refl _))⟩
          · rw [List.getElem?_set_ne ej] at z
            have y := Q.e.at_ j s z
            cases s with
            | no => trivial
            | sh d => obtain ⟨v, a, r⟩ := y; exact ⟨v, a, r.up e2 (List.prefix_refl _)⟩
            | mu ys =>
              obtain ⟨q, ws, a, b1, b2, b3, b4, r⟩ := y
              refine ⟨q, ws, a, ?_, b2, b3, b4, r.up e2 (List.prefix_refl _)⟩
              have ne : q ≠ p := fun z' => ej (Q.e.dj i j xs ys p hi z h (z' ▸ a))
              rw [upd_ne ne]; exact b1
        · obtain ⟨_, a1⟩ := env_set_sh a1
          obtain ⟨_, a2⟩ := env_set_sh a2
          exact Q.e.dj j k ys zs q a1 a2 b1 b2
        · obtain ⟨_, a1⟩ := env_set_sh a1
          exact Q.e.kp q hq j ys a1
/-- an operation's end -/
theorem Rel.new (Q : Rel T F ι Hs H σ st) (E : SR T (here H ι Hs) ι Hs' H' st.cs) {z : V} {r : Rv} (n : NewR T ι H Hs' H' z r) : Rel T F ι Hs' H' σ st ∧ RpR T F ι Hs' H' σ st z r := by
  refine ⟨Q.step E, ?_⟩
  cases r with
  | sh d => exact n
  | rf i => exact n.elim
  | fr xs =>
    obtain ⟨p, vs, rfl, h1, h2, h3, rr⟩ := n
    obtain ⟨f1, f2, f3⟩ := Q.s.fresh h1
    refine ⟨p, vs, rfl, h2, f2, f3, h3, rr, fun i ys e1 e2 => ?_, fun q hq z => ?_⟩
    · obtain ⟨q, ws, a, b1, b2, b3, b4, _⟩ := Q.e.at_ i _ e1
      rw [e2] at a
      cases a
      rw [h1] at b4
      cases b4
    · obtain ⟨k1, _⟩ := Q.s.kept q hq
      rw [z, h1] at k1
      cases k1
end
end Lit
end
section
namespace Lit
open PySem L2
section
variable {T : Tb} {F : Fr} {ι : List Addr} {Hs H : Hp} {cs : List Cell} {Q : VK}
/-- what follows an operation from H -/
def Fol (T : Tb) (ι : List Addr) (Hs H : Hp) (cs : List Cell) (z : Rv) (Q : VK) : Prop := ∀ Hs' H' w, SR T (here H ι Hs) ι Hs' H' cs → NewR T ι H Hs' H' w z → Q w H'
theorem Fol.sh (R : SR T F ι Hs H cs) {d : D} (q : Fol T ι Hs H cs (.sh d) Q) {v : V} (r : Rp T Hs ι v d) : Q v H := q Hs H v R.start r
theorem Fol.fr (R : SR T F ι Hs H cs) {xs : List D} (q : Fol T ι Hs H cs (.fr xs) Q) {vs : List V} (r : RpL T Hs ι vs xs) : ∀ p, H p = none → Q (.ref p) (upd H p (.lst vs)) := fun p hp =>
  q Hs _ _ (R.allocN hp) ⟨p, vs, rfl, hp, (R.fresh hp).1, upd_same, r⟩
theorem Fol.tup (R : SR T F ι Hs H cs) {xs : List D} (q : Fol T ι Hs H cs (.sh (.tup xs)) Q) {vs : List V} (r : RpL T Hs ι vs xs) : ∀ p, H p = none → Q (.ref p) (upd H p (.tup vs)) := fun p hp =>
  q (upd Hs p (.tup vs)) _ _ (R.alloc hp) (.tup upd_same (r.up (same_upd (R.fresh hp).1) (List.prefix_refl _)))
theorem Fol.int (R : SR T F ι Hs H cs) {i : Int} (q : Fol T ι Hs H cs (.sh (.int i)) Q) : Q (.int i) H := q.sh R (.int i)
theorem Fol.str (R : SR T F ι Hs H cs) {i : Str} (q : Fol T ι Hs H cs (.sh (.str i)) Q) : Q (.str i) H := q.sh R (.str i)
theorem Fol.bl (R : SR T F ι Hs H cs) {i : Bool} (q : Fol T ι Hs H cs (.sh (.bl i)) Q) : Q (.bl i) H := q.sh R (.bl i)
theorem Fol.non (R : SR T F ι Hs H cs) (q : Fol T ι Hs H cs (.sh .non) Q) : Q .non H := q.sh R .non
end
section
variable {T : Tb} {Hs H : Hp} {ι : List Addr} {v : V}
theorem RpT.int {i : Int} (h : RpT T Hs H ι v (.int i)) : v = .int i := by cases (show Rp T Hs ι v (.int i) from h); rfl
theorem RpT.str {i : Str} (h : RpT T Hs H ι v (.str i)) : v = .str i := by cases (show Rp T Hs ι v (.str i) from h); rfl
theorem RpT.bl {i : Bool} (h : RpT T Hs H ι v (.bl i)) : v = .bl i := by cases (show Rp T Hs ι v (.bl i) from h); rfl
theorem RpT.non (h : RpT T Hs H ι v .non) : v = .non := by cases (show Rp T Hs ι v .non from h); rfl
end
def gAdd : D → D → Option Rv
  | .int i, .int j => some (.sh (.int (i + j)))
  | .str x, .str y => if x.length + y.length ≤ 16777216 then some (.sh (.str (x ++ y))) else none
  | .lst xs, .lst ys => if xs.length + ys.length ≤ 16777216 then some (.fr (xs ++ ys)) else none
  | .tup xs, .tup ys => if xs.length + ys.length ≤ 16777216 then some (.sh (.tup (xs ++ ys))) else none
  | _, _ => none
def smallI (i : Int) : Bool := decide (-(2 ^ 64) < i) && decide (i < 2 ^ 64)
def gMul : D → D → Option Rv
  | .int i, .int j => if (smallI i || smallI j) = true then some (.sh (.int (i * j))) else none
  | .str x, .int j => if x.length ≤ 1000 ∧ 0 ≤ j ∧ j ≤ 1000 then some (.sh (.str (Txt.mul x j))) else none
  | _, _ => none
def gFdiv : D → D → Option Rv
  | .int i, .int j => if 0 < j ∧ j < 2 ^ 256 then some (.sh (.int (i / j))) else none
  | _, _ => none
def gMod : D → D → Option Rv
  | .int i, .int j => if 0 < j then some (.sh (.int (i % j))) else none
  | _, _ => none
def gPow : D → D → Option Rv
  | .int i, .int j => if 0 ≤ j ∧ j ≤ 1000 ∧ i.natAbs < 2 ^ 64 then some (.sh (.int (i ^ j.toNat))) else none
  | _, _ => none
def gSub : D → D → Option Rv
  | .int i, .int j => some (.sh (.int (i - j)))
  | _, _ => none
def gBin : Operator → D → D → Option Rv
  | .Add => gAdd
  | .Sub => gSub
  | .Mult => gMul
  | .FloorDiv => gFdiv
  | .Mod => gMod
  | .Pow => gPow
  | _ => fun _ _ => none
theorem line_eq : sizeLine = 16777216 := by decide
theorem RpT.tup {T : Tb} {Hs H : Hp} {ι : List Addr} {v : V} {xs : List D} (h : RpT T Hs H ι v (.tup xs)) : ∃ a vs, v = .ref a ∧ Hs a = some (.tup vs) ∧ RpL T Hs ι vs xs := by
  cases (show Rp T Hs ι v (.tup xs) from h) with
  | tup h1 r => exact ⟨_, _, rfl, h1, r⟩
theorem rp_of_tup {T : Tb} {Hs : Hp} {ι : List Addr} {a : Addr} {vs : List V} {xs : List D} (h : Hs a = some (.tup vs)) (r : RpL T Hs ι vs xs) : Rp T Hs ι (.ref a) (.tup xs) := .tup h r
/-- a rule over data for a two-place operation of values -/
def OpG (T : Tb) (X : Cx) (f : Value → Value → Sem Value) (g : D → D → Option Rv) : Prop :=
  ∀ (F : Fr) (ι : List Addr) (Hs : Hp) (cs : List Cell) (pins : List (Addr × Obj)) (s : Shared) (σ : L2.St) (H : Hp) (x y : V) (v u : Value) (Q : VK) (d e : D) (z : Rv),
    SR T F ι Hs H cs → Inv X pins σ H s → RelV x v → RelV y u → RpT T Hs H ι x d → RpT T Hs H ι y e → g d e = some z → Fol T ι Hs H cs z Q →
    wpAny (model X.prog X.w) X.A (f v u) (EP X pins σ Q) X.xe s
section
variable {T : Tb} {X : Cx}
theorem add_g : OpG T X (binaryOp .Add) gAdd := by
  intro F ι Hs cs pins s σ H x y v u Q d e z R I rx ry hd he hg q
  cases d with
  | int i =>
    cases e with
    | int j =>
      cases hd.int; cases he.int; cases hg
      exact op_add pins s σ H _ _ _ _ Q I rx ry ⟨i, j, rfl, rfl, q.int R⟩
    | _ => cases hg
  | str i =>
    cases e with
    | str j =>
      cases hd.str; cases he.str
      simp only [gAdd] at hg
      split at hg
      · next hz =>
        cases hg
        exact op_add_str pins s σ H _ _ _ _ Q I rx ry ⟨i, j, rfl, rfl, by rw [line_eq]; exact hz, q.str R⟩
      · cases hg
    | _ => cases hg
  | lst xs =>
    cases e with
    | lst ys =>
      obtain ⟨a, vs, rfl, h1, r1⟩ := hd
      obtain ⟨b, ws, rfl, h2, r2⟩ := he
      simp only [gAdd] at hg
      split at hg
      · next hz =>
        cases hg
        exact op_cat pins s σ H _ _ _ _ Q I rx ry ⟨a, b, vs, ws, rfl, rfl, h1, h2, by rw [line_eq, r1.length, r2.length]; exact hz, q.fr R (r1.app r2)⟩
      · cases hg
    | _ => cases hg
  | tup xs =>
    cases e with
    | tup ys =>
      obtain ⟨a, vs, rfl, h1, r1⟩ := hd.tup
      obtain ⟨b, ws, rfl, h2, r2⟩ := he.tup
      simp only [gAdd] at hg
      split at hg
      · next hz =>
        cases hg
        refine op_catA pins s σ H _ _ _ _ Q I rx ry ⟨a, b, vs, ws, rfl, rfl, .of (R.sub _ _ h1), .of (R.sub _ _ h2), by rw [line_eq, r1.length, r2.length]; exact hz, fun e1 => ?_, fun e1 e2 => ?_, fun e1 e2 => q.tup R (r1.app r2)⟩
        · subst e1
          cases r1
          exact q.sh R (.tup h2 r2)
        · subst e2
          cases r2
          exact q.sh R (.tup h1 (by rw [List.append_nil]; exact r1))
      · cases hg
    | _ => cases hg
  | _ => cases hg
theorem sub_g : OpG T X (binaryOp .Sub) gSub := by
  intro F ι Hs cs pins s σ H x y v u Q d e z R I rx ry hd he hg q
  cases d with
  | int i =>
    cases e with
    | int j =>
      cases hd.int; cases he.int; cases hg
      exact op_sub pins s σ H _ _ _ _ Q I rx ry ⟨i, j, rfl, rfl, q.int R⟩
    | _ => cases hg
  | _ => cases hg
theorem mul_g : OpG T X (binaryOp .Mult) gMul := by
  intro F ι Hs cs pins s σ H x y v u Q d e z R I rx ry hd he hg q
  cases d with
  | int i =>
    cases e with
    | int j =>
      cases hd.int; cases he.int
      simp only [gMul] at hg
      split at hg
      · next hz =>
        cases hg
        refine op_mul pins s σ H _ _ _ _ Q I rx ry ⟨i, j, rfl, rfl, ?_, q.int R⟩
        simp only [smallI, Bool.or_eq_true, Bool.and_eq_true, decide_eq_true_eq] at hz
        exact hz
      · cases hg
    | _ => cases hg
  | str i =>
    cases e with
    | int j =>
      cases hd.str; cases he.int
      simp only [gMul] at hg
      split at hg
      · next hz =>
        cases hg
        obtain ⟨t, rfl⟩ := rx
        obtain ⟨t', rfl⟩ := ry
        exact SB.mul (PyProof.Rows.mulOk_of 1000 1000 hz.1 (by omega) (by omega) (by decide) (by decide)) (fun t' tk => ⟨.str (Txt.mul i j), H, I.tok _, ⟨_, rfl⟩, q.str R⟩)
      · cases hg
    | _ => cases hg
  | _ => cases hg
theorem fdiv_g : OpG T X (binaryOp .FloorDiv) gFdiv := by
  intro F ι Hs cs pins s σ H x y v u Q d e z R I rx ry hd he hg q
  cases d with
  | int i =>
    cases e with
    | int j =>
      cases hd.int; cases he.int
      simp only [gFdiv] at hg
      split at hg
      · next hz =>
        cases hg
        refine op_fdivW pins s σ H _ _ _ _ Q I rx ry ⟨i, j, rfl, rfl, wide_div (b := 256) hz.1 (by omega) (by decide) (by decide), q.int R⟩
      · cases hg
    | _ => cases hg
  | _ => cases hg
theorem mod_g : OpG T X (binaryOp .Mod) gMod := by
  intro F ι Hs cs pins s σ H x y v u Q d e z R I rx ry hd he hg q
  cases d with
  | int i =>
    cases e with
    | int j =>
      cases hd.int; cases he.int
      simp only [gMod] at hg
      split at hg
      · next hz =>
        cases hg
        exact op_mod pins s σ H _ _ _ _ Q I rx ry ⟨i, j, rfl, rfl, hz, q.int R⟩
      · cases hg
    | _ => cases hg
  | _ => cases hg
theorem pow_g : OpG T X (binaryOp .Pow) gPow := by
  intro F ι Hs cs pins s σ H x y v u Q d e z R I rx ry hd he hg q
  cases d with
  | int i =>
    cases e with
    | int j =>
      cases hd.int; cases he.int
      simp only [gPow] at hg
      split at hg
      · next hz =>
        cases hg
        exact op_pow pins s σ H _ _ _ _ Q I rx ry ⟨i, j, rfl, rfl, ⟨hz.1, by omega, hz.2.2⟩, q.int R⟩
      · cases hg
    | _ => cases hg
  | _ => cases hg
theorem bin_g : ∀ o : Operator, OpG T X (binaryOp o) (gBin o)
  | .Add => add_g
  | .Sub => sub_g
  | .Mult => mul_g
  | .FloorDiv => fdiv_g
  | .Mod => mod_g
  | .Pow => pow_g
  | .MatMult | .Div | .LShift | .RShift | .BitOr | .BitXor | .BitAnd => by
    intro F ι Hs cs pins s σ H x y v u Q d e z R I rx ry hd he hg q
    cases hg
end
mutual
def toP : D → Option PyData
  | .non => some .none
  | .bl b => some (.bool b)
  | .int i => some (.int i)
  | .str x => some (.str x)
  | .lst xs => (toPs xs).map .list
  | .tup xs => (toPs xs).map .tuple
  | _ => none
def toPs : List D → Option (List PyData)
  | [] => some []
  | d :: ds => match toP d, toPs ds with
    | some p, some ps => some (p :: ps)
    | _, _ => none
end
mutual
theorem dp_of {T : Tb} {Hs H : Hp} {ι : List Addr} (e : Same Hs H) : ∀ (d : D) (v : V) (p : PyData), Rp T Hs ι v d → toP d = some p → Dp T.K H v p
  | .non, _, _, .non, h => by cases h; exact .non
  | .bl b, _, _, .bl _, h => by cases h; exact .bl b
  | .int i, _, _, .int _, h => by cases h; exact .int i
  | .str x, _, _, .str _, h => by cases h; exact .str x
  | .lst xs, _, _, .lst h1 r, h => by
    simp only [toP, Option.map_eq_some_iff] at h
    obtain ⟨ps, h2, rfl⟩ := h
    exact .lst (.of (e _ _ h1)) (dps_of e xs _ _ r h2)
  | .tup xs, _, _, .tup h1 r, h => by
    simp only [toP, Option.map_eq_some_iff] at h
    obtain ⟨ps, h2, rfl⟩ := h
    exact .tup (.of (e _ _ h1)) (dps_of e xs _ _ r h2)
  | .ins _ _, _, _, _, h => by simp [toP] at h
  | .own _, _, _, _, h => by simp [toP] at h
  | .scr _, _, _, _, h => by simp [toP] at h
theorem dps_of {T : Tb} {Hs H : Hp} {ι : List Addr} (e : Same Hs H) : ∀ (ds : List D) (vs : List V) (ps : List PyData), RpL T Hs ι vs ds → toPs ds = some ps → DpAll T.K H vs ps
  | [], _, _, .nil, h => by cases h; exact .nil
  | d :: ds, _, _, .cons h1 r, h => by
    simp only [toPs] at h
    split at h
    · next p qs h2 h3 =>
      cases h
      exact .cons (dp_of e d _ _ h1 h2) (dps_of e ds _ _ r h3)
    · cases h
end
theorem dp_top {T : Tb} {Hs H : Hp} {ι : List Addr} (e : Same Hs H) {d : D} {v : V} {p : PyData} (h : RpT T Hs H ι v d) (hp : toP d = some p) : Dp T.K H v p := by
  cases d with
  | lst xs =>
    obtain ⟨a, vs, rfl, h1, r⟩ := h
    simp only [toP, Option.map_eq_some_iff] at hp
    obtain ⟨ps, h2, rfl⟩ := hp
    exact .lst (.of h1) (dps_of e xs _ _ r h2)
  | _ => exact dp_of e _ _ _ h hp
/-- == by its parts: numbers and texts at once, else as data -/
def gEq : D → D → Option Bool
  | .int i, .int j => some (decide (i = j))
  | .str x, .str y => some (decide (x = y))
  | .bl a, .bl b => some (decide (a = b))
  | .non, .non => some true
  | .non, .str _ | .str _, .non | .non, .int _ | .int _, .non => some false
  | d, e => match toP d, toP e with
    | some p, some q => if (SeqAt.shaped p && SeqAt.shaped q) = true then some (PyData.eqv p q) else none
    | _, _ => none
def isFlat : D → Bool
  | .non | .bl _ | .int _ | .str _ => true
  | _ => false
def eqFl : D → D → Bool
  | .non, .non => true
  | .bl a, .bl b => a == b
  | .bl a, .int b => (if a then 1 else 0) == b
  | .int a, .bl b => a == (if b then 1 else 0)
  | .int a, .int b => a == b
  | .str a, .str b => a == b
  | _, _ => false
/-- x in ys: flat things in a list or tuple of flat things; one sign in a text -/
def gIn : D → D → Option Bool
  | d, .lst ys => if (isFlat d && ys.all isFlat) = true then some (ys.any fun y => eqFl y d) else none
  | d, .tup ys => if (isFlat d && ys.all isFlat) = true then some (ys.any fun y => eqFl y d) else none
  | .str x, .str z => match x.cps.toList with
    | [c] => some (decide (c ∈ z.cps.toList))
    | _ => none
  | _, _ => none
def gCmp : CmpOp → D → D → Option Bool
  | .Eq, d, e => gEq d e
  | .NotEq, d, e => (gEq d e).map (!·)
  | .Lt, .int i, .int j => some (decide (i < j))
  | .LtE, .int i, .int j => some (decide (i ≤ j))
  | .Gt, .int i, .int j => some (decide (j < i))
  | .GtE, .int i, .int j => some (decide (j ≤ i))
  | .In, d, e => gIn d e
  | .NotIn, d, e => (gIn d e).map (!·)
  | .Is, .non, .non => some true
  | .Is, .int _, .non | .Is, .str _, .non | .Is, .lst _, .non | .Is, .tup _, .non | .Is, .ins _ _, .non | .Is, .bl _, .non | .Is, .own _, .non => some false
  | .IsNot, .non, .non => some false
  | .IsNot, .int _, .non | .IsNot, .str _, .non | .IsNot, .lst _, .non | .IsNot, .tup _, .non | .IsNot, .ins _ _, .non | .IsNot, .bl _, .non | .IsNot, .own _, .non => some true
  | _, _, _ => none
def gCmpR (o : CmpOp) (d e : D) : Option Rv := (gCmp o d e).map fun b => .sh (.bl b)
theorem flat_of {T : Tb} {Hs : Hp} {ι : List Addr} {v : V} {d : D} (h : Rp T Hs ι v d) (f : isFlat d = true) : flatV v = true := by
  cases h <;> first | rfl | cases f
theorem flats_of {T : Tb} {Hs : Hp} {ι : List Addr} : ∀ {vs : List V} {ds : List D}, RpL T Hs ι vs ds → ds.all isFlat = true → vs.all flatV = true
  | _, _, .nil, _ => rfl
  | _, _, .cons h r, f => by
    rw [List.all_cons, Bool.and_eq_true] at f ⊢
    exact ⟨flat_of h f.1, flats_of r f.2⟩
theorem eqFl_of {T : Tb} {Hs : Hp} {ι : List Addr} {v w : V} {d e : D} (h : Rp T Hs ι v d) (h' : Rp T Hs ι w e) : isFlat d = true → isFlat e = true → eqV v w = eqFl d e := by
  intro f f'
  cases h <;> first | (cases f; done) | (cases h' <;> first | rfl | cases f')
theorem inFl_of {T : Tb} {Hs : Hp} {ι : List Addr} {v : V} {d : D} (h : Rp T Hs ι v d) (f : isFlat d = true) : ∀ {vs : List V} {ds : List D}, RpL T Hs ι vs ds → ds.all isFlat = true → inV v vs = ds.any fun y => eqFl y d
  | _, _, .nil, _ => rfl
  | _, _, .cons h1 r, f1 => by
    rw [List.all_cons, Bool.and_eq_true] at f1
    show (eqV _ v || inV v _) = _
    rw [eqFl_of h1 h f1.1 f, inFl_of h f r f1.2, List.any_cons]
theorem RpT.flat {T : Tb} {Hs H : Hp} {ι : List Addr} {v : V} {d : D} (h : RpT T Hs H ι v d) (f : isFlat d = true) : Rp T Hs ι v d := by
  cases d <;> first | exact h | cases f
section
variable {T : Tb} {X : Cx}
/-- a comparison's end -/
def CmG (T : Tb) (X : Cx) (f : Value → Value → Sem Value) (g : D → D → Option Bool) : Prop :=
  ∀ (F : Fr) (ι : List Addr) (Hs : Hp) (cs : List Cell) (pins : List (Addr × Obj)) (s : Shared) (σ : L2.St) (H : Hp) (x y : V) (v u : Value) (Q : VK) (d e : D) (z : Bool),
    SR T F ι Hs H cs → Inv X pins σ H s → RelV x v → RelV y u → RpT T Hs H ι x d → RpT T Hs H ι y e → g d e = some z → Q (.bl z) H →
    wpAny (model X.prog X.w) X.A (f v u) (EP X pins σ Q) X.xe s
theorem eq_data (hK : X.K = T.K) (hu : X.A.units + 64 < cLine) : CmG T X (compareOp .Eq) (fun d e => match toP d, toP e with
    | some p, some q => if (SeqAt.shaped p && SeqAt.shaped q) = true then some (PyData.eqv p q) else none
    | _, _ => none) := by
  intro F ι Hs cs pins s σ H x y v u Q d e z R I rx ry hd he hg q
  simp only at hg
  split at hg
  · next p r hp hr =>
    split at hg
    · next hz =>
      cases hg
      rw [Bool.and_eq_true] at hz
      exact op_eqD hu pins s σ H _ _ _ _ Q I rx ry ⟨p, r, by rw [hK]; exact dp_top R.sub hd hp, by rw [hK]; exact dp_top R.sub he hr, hz.1, hz.2, q⟩
    · cases hg
  · cases hg
theorem ne_data (hK : X.K = T.K) (hu : X.A.units + 64 < cLine) : CmG T X (compareOp .NotEq) (fun d e => (match toP d, toP e with
    | some p, some q => if (SeqAt.shaped p && SeqAt.shaped q) = true then some (PyData.eqv p q) else none
    | _, _ => none).map (!·)) := by
  intro F ι Hs cs pins s σ H x y v u Q d e z R I rx ry hd he hg q
  simp only at hg
  split at hg
  · next p r hp hr =>
    split at hg
    · next hz =>
      cases hg
      rw [Bool.and_eq_true] at hz
      exact op_neD hu pins s σ H _ _ _ _ Q I rx ry ⟨p, r, by rw [hK]; exact dp_top R.sub hd hp, by rw [hK]; exact dp_top R.sub he hr, hz.1, hz.2, q⟩
    · cases hg
  · cases hg
theorem eq_g (hK : X.K = T.K) (hu : X.A.units + 64 < cLine) : CmG T X (compareOp .Eq) gEq := by
  intro F ι Hs cs pins s σ H x y v u Q d e z R I rx ry hd he hg q
  have data := eq_data (T := T) hK hu F ι Hs cs pins s σ H x y v u Q d e z R I rx ry hd he
  cases d <;> cases e <;> first
    | (cases hd.int; cases he.int; cases hg; exact op_eq pins s σ H _ _ _ _ Q I rx ry ⟨rfl, by simpa using q⟩)
    | (cases hd.str; cases he.str; cases hg; exact op_eq pins s σ H _ _ _ _ Q I rx ry ⟨rfl, by simpa using q⟩)
    | (cases hd.bl; cases he.bl; cases hg; exact op_eq pins s σ H _ _ _ _ Q I rx ry ⟨rfl, by simpa using q⟩)
    | (cases hd.non; cases he.non; cases hg; exact op_eq pins s σ H _ _ _ _ Q I rx ry ⟨rfl, by simpa using q⟩)
    | (cases hd.non; cases he.str; cases hg; exact op_eq pins s σ H _ _ _ _ Q I rx ry ⟨rfl, by simpa using q⟩)
    | (cases hd.str; cases he.non; cases hg; exact op_eq pins s σ H _ _ _ _ Q I rx ry ⟨rfl, by simpa using q⟩)
    | (cases hd.non; cases he.int; cases hg; exact op_eq pins s σ H _ _ _ _ Q I rx ry ⟨rfl, by simpa using q⟩)
    | (cases hd.int; cases he.non; cases hg; exact op_eq pins s σ H _ _ _ _ Q I rx ry ⟨rfl, by simpa using q⟩)
    | exact data hg q
theorem ne_g (hK : X.K = T.K) (hu : X.A.units + 64 < cLine) : CmG T X (compareOp .NotEq) (fun d e => (gEq d e).map (!·)) := by
  intro F ι Hs cs pins s σ H x y v u Q d e z R I rx ry hd he hg q
  have data := ne_data (T := T) hK hu F ι Hs cs pins s σ H x y v u Q d e z R I rx ry hd he
  cases d <;> cases e <;> first
    | (cases hd.int; cases he.int; cases hg; exact op_ne pins s σ H _ _ _ _ Q I rx ry ⟨rfl, by simpa using q⟩)
    | (cases hd.str; cases he.str; cases hg; exact op_ne pins s σ H _ _ _ _ Q I rx ry ⟨rfl, by simpa using q⟩)
    | (cases hd.bl; cases he.bl; cases hg; exact op_ne pins s σ H _ _ _ _ Q I rx ry ⟨rfl, by simpa using q⟩)
    | (cases hd.non; cases he.non; cases hg; exact op_ne pins s σ H _ _ _ _ Q I rx ry ⟨rfl, by simpa using q⟩)
    | (cases hd.non; cases he.str; cases hg; exact op_ne pins s σ H _ _ _ _ Q I rx ry ⟨rfl, by simpa using q⟩)
    | (cases hd.str; cases he.non; cases hg; exact op_ne pins s σ H _ _ _ _ Q I rx ry ⟨rfl, by simpa using q⟩)
    | (cases hd.non; cases he.int; cases hg; exact op_ne pins s σ H _ _ _ _ Q I rx ry ⟨rfl, by simpa using q⟩)
    | (cases hd.int; cases he.non; cases hg; exact op_ne pins s σ H _ _ _ _ Q I rx ry ⟨rfl, by simpa using q⟩)
    | exact data hg q
theorem in_g (hK : X.K = T.K) (neg : Bool) : CmG T X (compareOp (if neg then .NotIn else .In)) (fun d e => (gIn d e).map fun b => if neg then !b else b) := by
  intro F ι Hs cs pins s σ H x y v u Q d e z R I rx ry hd he hg q
  simp only [Option.map_eq_some_iff] at hg
  obtain ⟨b, hb, rfl⟩ := hg
  have seq : ∀ (p : Addr) (vs : List V) (ys : List D), y = .ref p → (SqL X.K H p vs ∨ SqT X.K H p vs) → RpL T Hs ι vs ys → (isFlat d && ys.all isFlat) = true → b = (ys.any fun y => eqFl y d) →
      wpAny (model X.prog X.w) X.A (compareOp (if neg then .NotIn else .In) v u) (EP X pins σ Q) X.xe s := by
    intro p vs ys hy hs r hf eb
    rw [Bool.and_eq_true] at hf
    have h1 := inFl_of (hd.flat hf.1) hf.1 r hf.2
    rw [← eb] at h1
    cases neg with
    | true =>
      exact op_notIn_seq pins s σ H _ _ _ _ Q I rx ry ⟨p, vs, hy, hs, flat_of (hd.flat hf.1) hf.1, flats_of r hf.2, by
        simp only [if_true] at q ⊢
        rw [h1]; exact q⟩
    | false =>
      exact op_in_seq pins s σ H _ _ _ _ Q I rx ry ⟨p, vs, hy, hs, flat_of (hd.flat hf.1) hf.1, flats_of r hf.2, by
        simp only [Bool.false_eq_true, if_false] at q ⊢
        rw [h1]; exact q⟩
  cases e with
  | lst ys =>
    obtain ⟨a, vs, rfl, h1, r⟩ := he
    simp only [gIn] at hb
    split at hb
    · next hf => exact seq a vs ys rfl (.inl (.of h1)) r hf (Option.some.inj hb).symm
    · cases hb
  | tup ys =>
    obtain ⟨a, vs, rfl, h1, r⟩ := he.tup
    simp only [gIn] at hb
    split at hb
    · next hf => exact seq a vs ys rfl (.inr (.of (R.sub _ _ h1))) r hf (Option.some.inj hb).symm
    · cases hb
  | str w =>
    cases d with
    | str x' =>
      cases hd.str; cases he.str
      simp only [gIn] at hb
      split at hb
      · next c hc =>
        cases hb
        have ex : x' = ⟨#[c]⟩ := by
          obtain ⟨arr⟩ := x'
          have : arr = #[c] := Array.toList_inj.mp hc
          rw [this]
        subst ex
        cases neg with
        | true =>
          refine op_notIn_sign pins s σ H _ _ _ _ Q I rx ry ⟨c, w, rfl, rfl, ?_⟩
          simpa using q
        | false =>
          refine op_in_sign pins s σ H _ _ _ _ Q I rx ry ⟨c, w, rfl, rfl, ?_⟩
          simpa using q
      · cases hb
    | _ => cases hb
  | _ => cases d <;> cases hb
theorem nonR_ne {Hs H : Hp} {ι : List Addr} {v : V} {d : D} (h : RpT T Hs H ι v d) (hd : d ≠ .non) : v ≠ .non := by
  rintro rfl
  cases d with
  | lst xs => obtain ⟨a, vs, e, _⟩ := h; cases e
  | non => exact hd rfl
  | _ => cases (show Rp T Hs ι V.non _ from h)
theorem is_g : CmG T X (compareOp .Is) (gCmp .Is) := by
  intro F ι Hs cs pins s σ H x y v u Q d e z R I rx ry hd he hg q
  cases e with
  | non =>
    cases he.non
    refine op_isN pins s σ H _ _ _ _ Q I rx ry ⟨rfl, ?_⟩
    cases d with
    | non => cases hd.non; cases hg; simpa using q
    | scr ns => cases hg
    | _ =>
      cases hg
      rw [decide_eq_false (nonR_ne hd (by intro z; cases z))]
      exact q
  | _ => cases d <;> cases hg
theorem isnot_g : CmG T X (compareOp .IsNot) (gCmp .IsNot) := by
  intro F ι Hs cs pins s σ H x y v u Q d e z R I rx ry hd he hg q
  cases e with
  | non =>
    cases he.non
    refine op_notN pins s σ H _ _ _ _ Q I rx ry ⟨rfl, ?_⟩
    cases d with
    | non => cases hd.non; cases hg; simpa using q
    | scr ns => cases hg
    | _ =>
      cases hg
      rw [decide_eq_false (nonR_ne hd (by intro z; cases z))]
      exact q
  | _ => cases d <;> cases hg
theorem ord_g {o : CmpOp} {p : Int → Int → Bool} (ho : OpR X (compareOp o) (rI0 fun i j => .bl (p i j))) (hg' : ∀ d e, gCmp o d e = (match d, e with | .int i, .int j => some (p i j) | _, _ => none)) : CmG T X (compareOp o) (gCmp o) := by
  intro F ι Hs cs pins s σ H x y v u Q d e z R I rx ry hd he hg q
  rw [hg'] at hg
  cases d with
  | int i =>
    cases e with
    | int j =>
      cases hd.int; cases he.int; cases hg
      exact ho pins s σ H _ _ _ _ Q I rx ry ⟨i, j, rfl, rfl, q⟩
    | _ => cases hg
  | _ => cases hg
theorem cmp_g (hK : X.K = T.K) (hu : X.A.units + 64 < cLine) : ∀ o : CmpOp, CmG T X (compareOp o) (gCmp o)
  | .Eq => by
    have e : gCmp .Eq = gEq := by funext d e; cases d <;> rfl
    rw [e]; exact eq_g hK hu
  | .NotEq => by
    have e : gCmp .NotEq = fun d e => (gEq d e).map (!·) := by funext d e; cases d <;> rfl
    rw [e]; exact ne_g hK hu
  | .Lt => ord_g op_lt fun d e => by cases d <;> first | rfl | (cases e <;> rfl)
  | .LtE => ord_g op_le fun d e => by cases d <;> first | rfl | (cases e <;> rfl)
  | .Gt => ord_g op_gt fun d e => by cases d <;> first | rfl | (cases e <;> rfl)
  | .GtE => ord_g op_ge fun d e => by cases d <;> first | rfl | (cases e <;> rfl)
  | .Is => is_g
  | .IsNot => isnot_g
  | .In => by
    have e : gCmp .In = fun d e => (gIn d e).map fun b => if false then !b else b := by
      funext d e
      show gIn d e = _
      cases gIn d e <;> rfl
    rw [e]; exact in_g hK false
  | .NotIn => by
    have e : gCmp .NotIn = fun d e => (gIn d e).map fun b => if true then !b else b := by
      funext d e
      show (gIn d e).map _ = _
      cases gIn d e <;> rfl
    rw [e]; exact in_g hK true
end
end Lit
end
section
namespace Lit
open PySem L2
inductive Res where
  | ret (d : D) | exc (x : Exc)
abbrev Sem' := List D → List Cell → Option (Res × List Cell)
structure Pg where
  sem : Nat → Sem'
  dfs : Nat → List D
  mth : Nat → Str → Option Nat
  mki : Nat → Option Nat
  con : Nat → Str → Option D
  fld : Nat → List Str
  glb : Str → Option D
  fnm : Nat → Str
  cnm : Nat → Str
  xfd : Nat → List Str
  xnm : Nat → Str
  xin : Nat → Bool
  isx : Nat → Bool
  mkx : Nat → List D → Option (List D)
  xsub : Nat → Nat → Bool
  isc : Nat → Nat → Bool
  isk : Nat → Bool
  isg : Nat → Bool
  dn : Nat
  /-- the errors that f lets out have no context -/
  cln : Nat → Bool
  /-- every method of this name is such a one -/
  mcl : Str → Bool
  /-- what super(), said in class D, finds for an instance of c -/
  spr : Nat → Nat → Str → Option Nat
def intsOf : List D → Option (List Int)
  | [] => some []
  | .int i :: r => (intsOf r).map (i :: ·)
  | _ => none
def strsOf : List D → Option (List Str)
  | [] => some []
  | .str i :: r => (strsOf r).map (i :: ·)
  | _ => none
def bolsOf : List D → Option (List Bool)
  | [] => some []
  | .bl i :: r => (bolsOf r).map (i :: ·)
  | _ => none
def ins1 (i : Int) : List Int → List Int
  | [] => [i]
  | j :: r => if i ≤ j then i :: j :: r else j :: ins1 i r
def isort : List Int → List Int
  | [] => []
  | i :: r => ins1 i (isort r)
def imax : Int → List Int → Int
  | m, [] => m
  | m, j :: r => imax (if m < j then j else m) r
def imin : Int → List Int → Int
  | m, [] => m
  | m, j :: r => imin (if j < m then j else m) r
def rngD (lo hi : Int) : List D := (List.range (hi - lo).toNat).map fun k => D.int (lo + (k : Nat))
def gBi : Bi → List D → Option Rv
  | .len, [.lst xs] => some (.sh (.int xs.length))
  | .len, [.tup xs] => some (.sh (.int xs.length))
  | .len, [.str x] => if x.length ≤ 16777216 then some (.sh (.int x.length)) else none
  | .int, [.int i] => some (.sh (.int i))
  | .int, [.str x] => match PySem.intText? x with
    | some n => if x.length ≤ 640 then some (.sh (.int n)) else none
    | none => none
  | .str, [.int i] => if i.natAbs < 2 ^ 1900 then some (.sh (.str (toString i : String))) else none
  | .str, [.str x] => some (.sh (.str x))
  | .list, [.lst xs] => some (.fr xs)
  | .list, [.tup xs] => some (.fr xs)
  | .list, [.scr ns] => some (.fr (ns.map .int))
  | .tuple, [.lst xs] => some (.sh (.tup xs))
  | .tuple, [.tup xs] => some (.sh (.tup xs))
  | .sorted, [.lst xs] => (intsOf xs).map fun ns => .fr ((isort ns).map .int)
  | .max, [.lst xs] => match intsOf xs with
    | some (n :: ns) => some (.sh (.int (imax n ns)))
    | _ => none
  | .min, [.lst xs] => match intsOf xs with
    | some (n :: ns) => some (.sh (.int (imin n ns)))
    | _ => none
  | .sum, [.lst xs] => (intsOf xs).map fun ns => .sh (.int ns.sum)
  | .all, [.lst xs] => (bolsOf xs).map fun ns => .sh (.bl (ns.all id))
  | .any, [.lst xs] => (bolsOf xs).map fun ns => .sh (.bl (ns.any id))
  | .bool, [.bl b] => some (.sh (.bl b))
  | .bool, [.int i] => some (.sh (.bl (i != 0)))
  | _, _ => none
/-- methods that change nothing -/
def gMe : Me → D → List D → Option Rv
  | .split, .str x, [.str y] => if (y.length == 0) = false ∧ x.length + 2 ≤ 16777216 then some (.fr ((Txt.split x y).map .str)) else none
  | .join, .str x, [.lst ys] => match strsOf ys with
    | some zs => if (zs.map (·.length)).sum + zs.length * x.length ≤ 16777216 then some (.sh (.str (Txt.join x zs))) else none
    | none => none
  | .join, .str x, [.tup ys] => match strsOf ys with
    | some zs => if (zs.map (·.length)).sum + zs.length * x.length ≤ 16777216 then some (.sh (.str (Txt.join x zs))) else none
    | none => none
  | .index, .lst xs, [d] => if (isFlat d && xs.all isFlat) = true then (xs.findIdx? fun y => eqFl y d).map fun (j : Nat) => .sh (.int (j : Int)) else none
  | _, _, _ => none
/-- what a list becomes by a method, what the method hands back -/
def gMu : Me → List D → List D → Option (D × List D)
  | .append, xs, [d] => if xs.length < 16777216 then some (.non, xs ++ [d]) else none
  | .popAt, xs, [.int i] => match ixN xs.length i with
    | some k => if i < 2 ^ 62 ∧ -(2 ^ 62) < i then (xs[k]?).map fun d => (d, xs.eraseIdx k) else none
    | none => none
  | .pop, xs, [] => match xs.getLast? with
    | some d => some (d, xs.dropLast)
    | none => none
  | .insert, xs, [.int i, d] => if xs.length < 16777216 ∧ 0 ≤ i ∧ i < 2 ^ 62 then some (.non, xs.take i.toNat ++ [d] ++ xs.drop i.toNat) else none
  | _, _, _ => none
def gIx : D → D → Option Rv
  | .lst xs, .int i => (atI xs i).map .sh
  | .tup xs, .int i => (atI xs i).map .sh
  | .str x, .int i => if x.length ≤ 16777216 then (atI x.cps.toList i).map fun c => .sh (.str ⟨#[c]⟩) else none
  | _, _ => none
def cutD (xs : List D) (lo hi : Option Int) : List D := (xs.drop (HT.sIx xs.length 0 lo)).take (HT.sIx xs.length xs.length hi - HT.sIx xs.length 0 lo)
def gSl : D → Option Int → Option Int → Option Rv
  | .lst xs, lo, hi => some (.fr (cutD xs lo hi))
  | .tup xs, lo, hi => if HT.sIx xs.length 0 lo = 0 ∧ HT.sIx xs.length xs.length hi = xs.length then some (.sh (.tup xs)) else some (.sh (.tup (cutD xs lo hi)))
  | .str x, lo, hi => if x.length ≤ 16777216 then some (.sh (.str (cutS x lo hi))) else none
  | _, _, _ => none
def gTru : D → Option Bool
  | .non => some false
  | .bl b => some b
  | .int i => some (i != 0)
  | .lst xs => some (!xs.isEmpty)
  | .tup xs => some (!xs.isEmpty)
  | .str x => if x.length ≤ 16777216 then some ((x.length : Int) != 0) else none
  | _ => none
def gNot (d : D) : Option Rv := (gTru d).map fun b => .sh (.bl (!b))
def iterD : ItK → D → D → Option (List D)
  | .lst, .lst xs, _ => some xs
  | .tup, .tup xs, _ => some xs
  | .str, .str x, _ => some (x.cps.toList.map fun c => D.str ⟨#[c]⟩)
  | .rng1, .int n, _ => if -(2 ^ 62) ≤ n ∧ n < 2 ^ 62 then some (rngD 0 n) else none
  | .rng2, .int m, .int n => if -(2 ^ 62) ≤ m ∧ m < 2 ^ 62 ∧ -(2 ^ 62) ≤ n ∧ n < 2 ^ 62 then some (rngD m n) else none
  | _, _, _ => none
def gIsi (P : Pg) : D → Ty → Option Bool
  | .non, .int | .non, .bool | .non, .str | .non, .tuple | .non, .list => some false
  | .bl _, .int => some true
  | .bl _, .bool => some true
  | .bl _, .str | .bl _, .tuple | .bl _, .list => some false
  | .int _, .int => some true
  | .int _, .bool | .int _, .str | .int _, .tuple | .int _, .list => some false
  | .str _, .str => some true
  | .str _, .int | .str _, .bool | .str _, .tuple | .str _, .list => some false
  | .tup _, .tuple => some true
  | .tup _, .int | .tup _, .bool | .tup _, .str | .tup _, .list => some false
  | .lst _, .list => some true
  | .lst _, .int | .lst _, .bool | .lst _, .str | .lst _, .tuple => some false
  | .ins c _, .cls d => if P.isk c = true then some (P.isc c d) else none
  | .ins c _, _ => if P.isk c = true then some false else none
  | _, _ => none
/-- of what type the receiver must be -/
def tyM : Me → D → Bool
  | .split, .str _ => true
  | .join, .str _ => true
  | .index, .lst _ => true
  | .append, .lst _ => true
  | .popAt, .lst _ => true
  | .pop, .lst _ => true
  | .insert, .lst _ => true
  | _, _ => false
def Stt.put (st : Stt) (i : Nat) (s : Sl) : Stt := { st with env := st.env.set i s }
def capO (r : Rv) (st : Stt) : Out D := match capR r st with
  | some (d, st') => .ok d st'
  | none => .bad
def viewO (r : Rv) (st : Stt) : Out D := ofOpt (view st r) st
def sVar (i : Nat) (st : Stt) : Out Rv := match st.env[i]? with
  | some (.sh d) => .ok (.sh d) st
  | some (.mu _) => .ok (.rf i) st
  | _ => .bad
inductive Loc where
  | sl (i : Nat) | ce (n : Nat)
def locD (cs : List Cell) : D → Option (Loc × List D)
  | .own n => match cs[n]? with
    | some (.lst xs) => some (.ce n, xs)
    | _ => none
  | _ => none
/-- the list that may be changed -/
def locR (r : Rv) (st : Stt) : Option (Loc × List D) := match r with
  | .sh d => locD st.cs d
  | .rf i => match st.env[i]? with
    | some (.mu xs) => some (.sl i, xs)
    | some (.sh d) => locD st.cs d
    | _ => none
  | .fr _ => none
def setLoc (l : Loc) (xs : List D) (st : Stt) : Stt := match l with
  | .sl i => { st with env := st.env.set i (.mu xs) }
  | .ce n => { st with cs := st.cs.set n (.lst xs) }
def clsOf (m : Str) (st : Stt) : D → Option Nat
  | .ins c _ => some c
  | .own n => match st.cs[n]? with
    | some (.ins c fs) => if (fs.lookup m).isNone = true then some c else none
    | _ => none
  | _ => none
mutual
def low (n : Nat) : D → Bool
  | .own m => decide (m < n)
  | .lst xs => lows n xs
  | .tup xs => lows n xs
  | .ins _ xs => lows n xs
  | _ => true
def lows (n : Nat) : List D → Bool
  | [] => true
  | d :: ds => low n d && lows n ds
end
def lowC (n : Nat) : Cell → Bool
  | .lst xs => lows n xs
  | .ins _ fs => fs.all fun p => low n p.2
def fldD (fs : List (Str × D)) : List Str → Option (List D)
  | [] => some []
  | f :: r => match fs.lookup f, fldD fs r with
    | some d, some ds => some (d :: ds)
    | _, _ => none
/-- the new instance's cell, the last one, becomes data -/
def sealC (P : Pg) (n c : Nat) (cs : List Cell) : Option (D × List Cell) :=
  if cs.length = n + 1 then
    match cs[n]? with
    | some (.ins c' fs) =>
      if c' = c ∧ (fs.all fun p => low n p.2 && (P.fld c).contains p.1) = true ∧ ((cs.take n).all (lowC n)) = true then
        (fldD fs (P.fld c)).map fun ds => (.ins c ds, cs.take n)
      else none
    | _ => none
  else none
def callF (P : Pg) (f : Nat) (ds : List D) (st : Stt) : Out Rv := match P.sem f (ds ++ P.dfs f) st.cs with
  | some (.ret d, cs) => .ok (.sh d) { st with cs := cs }
  | some (.exc x, cs) => .exc x { st with cs := cs }
  | none => .bad
def makeF (P : Pg) (c : Nat) (ds : List D) (st : Stt) : Out Rv := match P.mki c with
  | some f => match P.sem f (.own st.cs.length :: (ds ++ P.dfs f)) (st.cs ++ [.ins c []]) with
    | some (.ret .non, cs) => match sealC P st.cs.length c cs with
      | some (d, cs') => .ok (.sh d) { st with cs := cs' }
      | none => .bad
    | some (.exc x, cs) => if st.cs.length ≤ cs.length ∧ (lows st.cs.length x.fs && (cs.take st.cs.length).all (lowC st.cs.length)) = true then .exc x { st with cs := cs.take st.cs.length } else .bad
    | _ => .bad
  | none => .bad
def two (g : D → D → Option Rv) (fa fb : Stt → Out Rv) (st : Stt) : Out Rv :=
  (fa st).bind fun ra s1 => (fb s1).bind fun rb s2 => match view s2 (setl ra), view s2 rb with
    | some d, some e => ofOpt (g d e) s2
    | _, _ => .bad
def truO (r : Rv) (st : Stt) : Out Bool := match view st r with
  | some d => ofOpt (gTru d) st
  | none => .bad
def partO (r : Rv) (st : Stt) : Out (Option Int) := match view st r with
  | some (.int i) => .ok (some i) st
  | _ => .bad
def lcF (i : Nat) (cond : Stt → Out Bool) (el : Stt → Out Rv) : List D → List D → Stt → Out (List D)
  | [], acc, st => .ok acc st
  | x :: xs, acc, st => (cond (st.put i (.sh x))).bind fun b s1 => match b with
    | true => (el s1).bind fun r s2 => (capO r s2).bind fun d s3 => if acc.length < 16777216 then lcF i cond el xs (acc ++ [d]) s3 else .bad
    | false => lcF i cond el xs acc s1
def noX {α : Type} : Out α → Out α
  | .exc _ _ => .bad
  | o => o
def isMu : Sl → Bool
  | .mu _ => true
  | _ => false
/-- what a comprehension walks: the items, the cell where they stand -/
def iterS (k : ItK) (da db : D) (s : Stt) : Option (List D × Option Nat) := match iterD k da db with
  | some xs => some (xs, none)
  | none => match k, da with
    | .lst, .own n => match s.cs[n]? with
      | some (.lst xs) => if xs.all isFlat = true then some (xs, some n) else none
      | _ => none
    | _, _ => none
def idFl : D → D → Bool
  | .non, .non => true
  | .bl a, .bl b => decide (a = b)
  | .int i, .int j => decide (i = j)
  | .str x, .str y => decide (x = y)
  | _, _ => false
def eqFls : List D → List D → Bool
  | [], [] => true
  | x :: xs, y :: ys => idFl x y && eqFls xs ys
  | _, _ => false
def okC (o : Option Nat) (xs : List D) (s : Stt) : Bool := match o with
  | none => true
  | some n => match s.cs[n]? with
    | some (.lst ys) => eqFls ys xs
    | _ => false
/-- the walked cell stays as it is -/
def chk {α : Type} (o : Option Nat) (xs : List D) (f : Stt → Out α) (st : Stt) : Out α := match o with
  | none => f st
  | some n => (f st).bind fun r s => if okC (some n) xs s = true then .ok r s else .bad
def lcK (i : Nat) (k : ItK) (cond : Stt → Out Bool) (el : Stt → Out Rv) (da db : D) (s4 : Stt) : Out Rv := match iterS k da db s4, s4.env[i]? with
  | some (xs, o), some sl => match isMu sl with
    | true => .bad
    | false => (noX (lcF i (chk o xs cond) (chk o xs el) xs [] s4)).bind fun ys s5 => .ok (.fr ys) { s5 with env := s5.env.set i sl }
  | _, _ => .bad
def views (st : Stt) : List Rv → Option (List D)
  | [] => some []
  | r :: rs => match view st r, views st rs with
    | some d, some ds => some (d :: ds)
    | _, _ => none
def partF (e : E) (f : Stt → Out Rv) (st : Stt) : Out (Option Int) := match e with
  | .no => .ok none st
  | _ => (f st).bind partO
mutual
def ev (P : Pg) : E → Stt → Out Rv
  | .v i, st => sVar i st
  | .k d, st => .ok (.sh d) st
  | .g x, st => match P.glb x with
    | some d => .ok (.sh d) st
    | none => .bad
  | .bin o a b, st => two (gBin o) (ev P a) (ev P b) st
  | .cmp o a b, st => two (gCmpR o) (ev P a) (ev P b) st
  | .chn o p a b c, st => (ev P a st).bind fun ra s1 => (ev P b s1).bind fun rb s2 => match view s2 (setl ra), view s2 (setl rb) with
    | some d, some e => match gCmp o d e with
      | some true => (ev P c s2).bind fun rc s3 => match view s3 (setl rb), view s3 rc with
        | some e', some f => ofOpt (gCmpR p e' f) s3
        | _, _ => .bad
      | some false => .ok (.sh (.bl false)) s2
      | none => .bad
    | _, _ => .bad
  | .and es, st => evAnd P es st
  | .or es, st => evOr P es st
  | .not a, st => (ev P a st).bind fun r s => match view s r with
    | some d => ofOpt (gNot d) s
    | none => .bad
  | .neg a, st => (ev P a st).bind fun r s => match view s r with
    | some (.int i) => .ok (.sh (.int (-i))) s
    | _ => .bad
  | .ife c a b, st => (ev P c st).bind fun r s => (truO r s).bind fun t s1 => match t with
    | true => ev P a s1
    | false => ev P b s1
  | .lst es, st => (evc P es st).bind fun ds s => if ds.length ≤ 16777216 then .ok (.fr ds) s else .bad
  | .tup es, st => (evc P es st).bind fun ds s => if ds.length ≤ 16777216 then .ok (.sh (.tup ds)) s else .bad
  | .cell es, st => (evc P es st).bind fun ds s => if ds.length ≤ 16777216 then .ok (.sh (.own s.cs.length)) { s with cs := s.cs ++ [.lst ds] } else .bad
  | .ix a b, st => two gIx (ev P a) (ev P b) st
  | .sl a lo hi, st => (ev P a st).bind fun ra s1 => (partF lo (ev P lo) s1).bind fun l s2 => (partF hi (ev P hi) s2).bind fun h s3 => match view s3 (setl ra) with
    | some d => ofOpt (gSl d l h) s3
    | none => .bad
  | .call f es, st => (evc P es st).bind (callF P f)
  | .bi b a, st => (ev P a st).bind fun r s => match view s r with
    | some d => ofOpt (gBi b [d]) s
    | none => .bad
  | .lrng a, st => (ev P a st).bind fun r s => match view s r with
    | some (.int n) => if 0 ≤ n ∧ n ≤ 1000 then .ok (.fr (rngD 0 n)) s else .bad
    | _ => .bad
  | .me m o es, st => (ev P o st).bind fun r s1 => if ((view s1 (setl r)).any (tyM m)) = true then (evs P es s1).bind fun rs s2 => match view s2 (setl r), views s2 rs with
    | some d, some ds => ofOpt (gMe m d ds) s2
    | _, _ => .bad
    else .bad
  | .mu m o es, st => (ev P o st).bind fun r s1 => if ((view s1 (setl r)).any (tyM m)) = true then (evc P es s1).bind fun ds s2 => match locR (setl r) s2 with
    | some (l, xs) => match gMu m xs ds with
      | some (d, ys) => .ok (.sh d) (setLoc l ys s2)
      | none => .bad
    | none => .bad
    else .bad
  | .fld o f, st => (ev P o st).bind fun r s => match view s r with
    | some (.ins c ds) => match (P.fld c).idxOf? f with
      | some j => ofOpt ((ds[j]?).map .sh) s
      | none => .bad
    | some (.own n) => match s.cs[n]? with
      | some (.ins c fs) => if (P.fld c).contains f = true then ofOpt ((fs.lookup f).map .sh) s else .bad
      | _ => .bad
    | _ => .bad
  | .con o f, st => (ev P o st).bind fun r s => match view s r with
    | some (.ins c _) => match P.con c f with
      | some d => if (P.fld c).contains f = false then .ok (.sh d) s else .bad
      | none => .bad
    | _ => .bad
  | .inv o m es, st => (ev P o st).bind fun r s => (capO r s).bind fun d s1 => match clsOf m s1 d with
    | some c => match P.mth c m with
      | some f => (evc P es s1).bind fun ds s2 => callF P f (d :: ds) s2
      | none => .bad
    | none => .bad
  | .mk c es, st => (evc P es st).bind (makeF P c)
  | .sto f a, st => (ev P a st).bind fun r s => (capO r s).bind fun d s1 => match d with
    | .ins c _ => if P.mth c "__str__" = some f then (callF P f [d] s1).bind fun r s2 => match r with
        | .sh (.str x) => .ok (.sh (.str x)) s2
        | _ => .bad
      else .bad
    | _ => .bad
  | .isi a t, st => (ev P a st).bind fun r s => match view s r with
    | some d => ofOpt ((gIsi P d t).map fun b => .sh (.bl b)) s
    | none => .bad
  | .lc i k a b cond el, st => (ev P a st).bind fun ra s1 => (capO ra s1).bind fun da s2 => (ev P b s2).bind fun rb s3 => (capO rb s3).bind fun db s4 => lcK i k (evConds P cond) (ev P el) da db s4
  | .sup c0 m es, st => match st.env[(0 : Nat)]? with
    | some (.sh d) => match clsOf m st d with
      | some c => match P.spr c0 c m with
        | some f => (evc P es st).bind fun ds s2 => callF P f (d :: ds) s2
        | none => .bad
      | none => .bad
    | _ => .bad
  | .no, st => .ok (.sh .non) st
def evAnd (P : Pg) : Es → Stt → Out Rv
  | .nil, _ => .bad
  | .cons e .nil, st => ev P e st
  | .cons e es, st => (ev P e st).bind fun r s => match view s r with
    | some (.bl true) => evAnd P es s
    | some (.bl false) => .ok (.sh (.bl false)) s
    | _ => .bad
def evOr (P : Pg) : Es → Stt → Out Rv
  | .nil, _ => .bad
  | .cons e .nil, st => ev P e st
  | .cons e es, st => (ev P e st).bind fun r s => match view s r with
    | some (.bl false) => evOr P es s
    | some (.bl true) => .ok (.sh (.bl true)) s
    | _ => .bad
def evConds (P : Pg) : Es → Stt → Out Bool
  | .nil, st => .ok true st
  | .cons e .nil, st => (ev P e st).bind truO
  | _, _ => .bad
def evs (P : Pg) : Es → Stt → Out (List Rv)
  | .nil, st => .ok [] st
  | .cons e es, st => (ev P e st).bind fun r s => (evs P es s).bind fun rs s' => .ok (setl r :: rs) s'
def evc (P : Pg) : Es → Stt → Out (List D)
  | .nil, st => .ok [] st
  | .cons e es, st => (ev P e st).bind fun r s => (capO r s).bind fun d s1 => (evc P es s1).bind fun ds s2 => .ok (d :: ds) s2
end
inductive Flow' where
  | nx | rt (d : D) | bk | ct
def slOf : Rv → Stt → Option (Sl × Stt)
  | .fr xs, st => some (.mu xs, st)
  | r, st => (capR r st).map fun p => (.sh p.1, p.2)
def forF (i : Nat) (body : Stt → Out Flow') : List D → Stt → Out Flow'
  | [], st => .ok .nx st
  | x :: xs, st => (body (st.put i (.sh x))).bind fun fl s => match fl with
    | .nx => forF i body xs s
    | .ct => forF i body xs s
    | .bk => .ok .nx s
    | .rt d => .ok (.rt d) s
def whlF (c : Stt → Out Bool) (b : Stt → Out Flow') : Nat → Stt → Out Flow'
  | 0, _ => .bad
  | n + 1, st => (c st).bind fun t s => match t with
    | false => .ok .nx s
    | true => (b s).bind fun fl s1 => match fl with
      | .nx => whlF c b n s1
      | .ct => whlF c b n s1
      | .bk => .ok .nx s1
      | .rt d => .ok (.rt d) s1
def putD (f : Str) (d : D) : List (Str × D) → List (Str × D)
  | [] => [(f, d)]
  | p :: r => if p.1 = f then (f, d) :: r else p :: putD f d r
def putAll : List Nat → List D → Stt → Option Stt
  | [], [], st => some st
  | i :: is, d :: ds, st => putAll is ds (st.put i (.sh d))
  | _, _, _ => none
def itemsOf : D → Option (List D)
  | .tup xs => some xs
  | _ => none
def hiD (P : Pg) (x : Exc) : List HI → Option (List D)
  | [] => some []
  | .c d :: r => (hiD P x r).map (d :: ·)
  | .f a :: r => match (P.xfd x.c).idxOf? a with
    | some j => match x.fs[j]?, hiD P x r with
      | some d, some ds => some (d :: ds)
      | _, _ => none
    | none => none
def xtB (P : Pg) (c : Nat) : XTy → Bool
  | .c n => P.xsub c n
  | .ve => true
def clD (P : Pg) (x : Exc) : List (List (Bool × XTy) × List HI) → List HI → Option (List D)
  | [], last => hiD P x last
  | (ts, hs) :: r, last => if (ts.all fun t => xtB P x.c t.2 == t.1) = true then hiD P x hs else clD P x r last
mutual
def ex (P : Pg) : St → Stt → Out Flow'
  | .asg i e, st => (ev P e st).bind fun r s => match slOf r s with
    | some (sl, s1) => if i < s1.env.length then .ok .nx (s1.put i sl) else .bad
    | none => .bad
  | .asgT is e, st => (ev P e st).bind fun r s => match view s r with
    | some (.tup ds) => match putAll is ds s with
      | some s1 => .ok .nx s1
      | none => .bad
    | _ => .bad
  | .asgP i j es, st => (evc P es st).bind fun ds s => match ds with
    | [d, e] => .ok .nx ((s.put i (.sh d)).put j (.sh e))
    | _ => .bad
  | .setix o i e, st => (ev P e st).bind fun r s => (capO r s).bind fun d s1 => (ev P o s1).bind fun ro s2 => (ev P i s2).bind fun ri s3 => match locR (setl ro) s3, view s3 ri with
    | some (l, xs), some (.int j) => match ixN xs.length j with
      | some n => .ok .nx (setLoc l (xs.set n d) s3)
      | none => .bad
    | _, _ => .bad
  | .aug i o e, st => match st.env[i]? with
    | some (.sh (.int a)) => (ev P e st).bind fun r s => match view s r, o with
      | some (.int b), .Add => .ok .nx (s.put i (.sh (.int (a + b))))
      | some (.int b), .Sub => .ok .nx (s.put i (.sh (.int (a - b))))
      | _, _ => .bad
    | _ => .bad
  | .setf o f e, st => (ev P e st).bind fun r s => (capO r s).bind fun d s1 => (ev P o s1).bind fun ro s2 => match view s2 ro with
    | some (.own n) => match s2.cs[n]? with
      | some (.ins c fs) => if fs.length < 100 ∧ (P.fld c).contains f = true then .ok .nx { s2 with cs := s2.cs.set n (.ins c (putD f d fs)) } else .bad
      | _ => .bad
    | _ => .bad
  | .ex e, st => (ev P e st).bind fun _ s => .ok .nx s
  | .ite c a b, st => (ev P c st).bind fun r s => (truO r s).bind fun t s1 => match t with
    | true => exs P a s1
    | false => exs P b s1
  | .for_ i k a b body, st => (ev P a st).bind fun ra s1 => (capO ra s1).bind fun da s2 => (ev P b s2).bind fun rb s3 => (capO rb s3).bind fun db s4 => match iterD k da db with
    | some xs => forF i (exs P body) xs s4
    | none => .bad
  | .whl n c body, st => whlF (fun s => (ev P c s).bind truO) (exs P body) n st
  | .ret e, st => (ev P e st).bind fun r s => (capO r s).bind fun d s1 => .ok (.rt d) s1
  | .ret0, st => .ok (.rt .non) st
  | .raise c es, st => (evc P es st).bind fun ds s => match P.mkx c ds with
    | some fs => .exc ⟨c, fs⟩ s
    | none => .bad
  | .tryR body h c es, st => match exs P body st with
    | .exc x s => if P.isx x.c = true then (if P.xsub x.c h = true then (evc P es s).bind fun ds s1 => match P.mkx c ds with
        | some fs => .exc ⟨c, fs⟩ s1
        | none => .bad
      else .exc x s) else .bad
    | o => o
  | .tryH body h i cl last, st => match exs P body st with
    | .exc x s => if P.isx x.c = true ∧ i < s.env.length then (if P.xsub x.c h = true then match clD P x cl last with
        | some ds => if ds.length ≤ 16777216 then .ok (.rt (.tup ds)) s else .bad
        | none => .bad
      else .exc x s) else .bad
    | o => o
  | .pass, st => .ok .nx st
  | .brk, st => .ok .bk st
  | .cont, st => .ok .ct st
  | .dead, _ => .bad
def exs (P : Pg) : Sts → Stt → Out Flow'
  | .nil, st => .ok .nx st
  | .cons s ss, st => (ex P s st).bind fun fl s1 => match fl with
    | .nx => exs P ss s1
    | fl => .ok fl s1
end
def purD (ex : List (List D)) (n : Nat) : D → D
  | .own m => if n ≤ m then .lst (ex.getD (m - n) []) else .own m
  | .tup xs => .tup (purDs ex n xs)
  | d => d
where purDs (ex : List (List D)) (n : Nat) : List D → List D
  | [] => []
  | .own m :: ds => (if n ≤ m then .lst (ex.getD (m - n) []) else .own m) :: purDs ex n ds
  | d :: ds => d :: purDs ex n ds
/-- a def with its slots' number, the body: arguments and cells to the end; keep: its new cells stay -/
def runD (P : Pg) (slots : Nat) (body : Sts) : Sem' := fun ds cs =>
  match exs P body ⟨ds.map .sh ++ List.replicate (slots - ds.length) .no, cs⟩ with
  | .ok (.rt d) s => some (.ret d, s.cs)
  | .ok .nx s => some (.ret .non, s.cs)
  | .ok _ _ => none
  | .exc x s => some (.exc x, s.cs)
  | .bad => none
end Lit
end
section
set_option maxHeartbeats 1000000
namespace Lit
open PySem L2
theorem PE.imp {X : Cx} {e : Expr} {t t' : TE} (h : PE X e t) (q : ∀ σ H Q, t' σ H Q → t σ H Q) : PE X e t' := ⟨fun pins s σ H Q I z => h.run pins s σ H Q I (q σ H Q z)⟩
theorem PT.imp {X : Cx} {e : Expr} {t t' : TT} (h : PT X e t) (q : ∀ σ H Q, t' σ H Q → t σ H Q) : PT X e t' := ⟨fun pins s σ H Q I z => h.run pins s σ H Q I (q σ H Q z)⟩
theorem PW.imp {X : Cx} {e : Expr} {t t' : TT} (h : PW X e t) (q : ∀ σ H Q, t' σ H Q → t σ H Q) : PW X e t' := ⟨fun wh pins s σ H Q I z => h.run wh pins s σ H Q I (q σ H Q z)⟩
theorem PA.imp {X : Cx} {e : List Expr} {t t' : TA} (h : PA X e t) (q : ∀ σ H Q, t' σ H Q → t σ H Q) : PA X e t' := ⟨fun pos pins s σ H Q I z => h.run pos pins s σ H Q I (q σ H Q z)⟩
section
variable {T : Tb} {F : Fr} {W : WX} {X : Cx} {a b : Expr} {fa fb : Stt → Out Rv} {pos : Pos}
/-- a computation's end that is known -/
theorem tm_ok {α β : Type} {rep : L2.St → List Addr → Hp → Hp → Stt → β → α → Prop} {f : Stt → Out α} {σ : L2.St} {H : Hp} {Q : β → Hp → Prop} (h : Tm T F W rep f σ H Q) :
    ∃ ι Hs st, Rel T F ι Hs H σ st ∧ Post T F W σ (rep σ) ι Hs (f st) Q := h
theorem te_var {i : Nat} {x : Str} (hN : X.N[i]? = some x) (hv : Vis X.env.scope x) (hd : (x == ("__debug__" : Str)) = false) (hcd : (x == ("__classdict__" : Str)) = false) : PE X (.Name x pos) (TE' T F W (sVar i)) :=
  PE.imp (pe_var hN hv hd hcd) fun σ H Q ⟨ι, Hs, st, R, h⟩ => by
    unfold sVar at h
    cases e : st.env[i]? with
    | none => rw [e] at h; exact h.elim
    | some s =>
      rw [e] at h
      have z := R.e.at_ i s e
      cases s with
      | no => exact h.elim
      | sh d =>
        obtain ⟨v, e1, r⟩ := z
        exact ⟨v, e1, h.done R r⟩
      | mu xs =>
        obtain ⟨p, vs, e1, _⟩ := z
        exact ⟨_, e1, h.done R e1⟩
theorem te_const {e : Expr} {v : V} {d : D} (h : PE X e (tC v)) (r : ∀ Hs ι, Rp T Hs ι v d) : PE X e (TE' T F W fun st => .ok (.sh d) st) :=
  PE.imp h fun σ H Q ⟨ι, Hs, st, R, q⟩ => q.done R (r _ _)
/-- g as a two-place rule of the layer -/
def rG (T : Tb) (g : D → D → Option Rv) : R2 := fun x y H Q => ∃ (F : Fr) (ι : List Addr) (Hs : Hp) (cs : List Cell) (d e : D) (z : Rv), SR T F ι Hs H cs ∧ RpT T Hs H ι x d ∧ RpT T Hs H ι y e ∧ g d e = some z ∧ Fol T ι Hs H cs z Q
theorem OpG.r {f : Value → Value → Sem Value} {g : D → D → Option Rv} (h : OpG T X f g) : OpR X f (rG T g) := fun pins s σ H x y v u Q I rx ry ⟨F, ι, Hs, cs, d, e, z, R, h1, h2, h3, h4⟩ =>
  h F ι Hs cs pins s σ H x y v u Q d e z R I rx ry h1 h2 h3 h4
theorem Out.assoc {α β γ : Type} (o : Out α) (k : α → Stt → Out β) (l : β → Stt → Out γ) : (o.bind k).bind l = o.bind fun a s => (k a s).bind l := by
  cases o <;> rfl
/-- the readings of two operands, then g, then what follows -/
theorem two_readK {γ δ : Type} {g : D → D → Option Rv} {σ : L2.St} {H : Hp} {ι : List Addr} {Hs : Hp} {st : Stt} {rep : List Addr → Hp → Hp → Stt → δ → γ → Prop} {k : Rv → Stt → Out γ} {Q : δ → Hp → Prop} {Q1 : VK} (R : Rel T F ι Hs H σ st)
    (h : Post T F W σ rep ι Hs ((two g fa fb st).bind k) Q)
    (hk : ∀ ι1 Hs1 H1 st1 v d e z, Rel T F ι1 Hs1 H1 σ st1 → RpR T F ι1 Hs1 H1 σ st1 v z → g d e = some z → Post T F W σ rep ι1 Hs1 (k z st1) Q → Q1 v H1) :
    tOp (rG T g) (TE' T F W fa) (TE' T F W fb) σ H Q1 := by
  unfold two at h
  rw [Out.assoc] at h
  refine Post.first (rep := rE T F) R h fun ι1 Hs1 H1 st1 x ra p1 e1 R1 r1 h1 => ?_
  obtain ⟨Hs1', e1', R1', r1'⟩ := R1.settle r1
  rw [Out.assoc] at h1
  refine Post.first (rep := rE T F) R1' (h1.up (List.prefix_refl _) e1') fun ι2 Hs2 H2 st2 y rb p2 e2 R2 r2 h2 => ?_
  have q1 : RpR T F ι2 Hs2 H2 σ st2 x (setl ra) := RpR.stay r1' p2 e2
  cases ea : view st2 (setl ra) with
  | none => rw [ea] at h2; exact h2.elim
  | some d =>
    cases eb : view st2 rb with
    | none => rw [ea, eb] at h2; exact h2.elim
    | some e =>
      rw [ea, eb] at h2
      cases eg : g d e with
      | none => simp only [eg] at h2; exact h2.elim
      | some z =>
        simp only [eg] at h2
        refine ⟨F, ι2, Hs2, st2.cs, d, e, z, R2.s, R2.view q1 ea, R2.view r2 eb, eg, fun Hs' H' w E n => ?_⟩
        obtain ⟨R3, n3⟩ := R2.new E n
        exact hk ι2 Hs' H' st2 w d e z R3 n3 eg (h2.up (List.prefix_refl _) E.grow)
theorem two_read {g : D → D → Option Rv} {σ : L2.St} {H : Hp} {Q : VK} (h : TE' T F W (two g fa fb) σ H Q) : tOp (rG T g) (TE' T F W fa) (TE' T F W fb) σ H Q := by
  obtain ⟨ι, Hs, st, R, h⟩ := h
  have e : two g fa fb st = (two g fa fb st).bind fun r s => .ok r s := by cases two g fa fb st <;> rfl
  rw [e] at h
  exact two_readK R h fun ι1 Hs1 H1 st1 v d e z R1 r1 _ h1 => h1.done R1 r1
theorem te_bin {o : Operator} (ha : PE X a (TE' T F W fa)) (hb : PE X b (TE' T F W fb)) : PE X (.BinOp a o b pos) (TE' T F W (two (gBin o) fa fb)) :=
  PE.imp (pe_op (bin_g o).r ha hb) fun _ _ _ h => two_read h
/-- a comparison -/
theorem CmG.o {f : Value → Value → Sem Value} {g : D → D → Option Bool} (h : CmG T X f g) : OpG T X f (fun d e => (g d e).map fun b => .sh (.bl b)) := by
  intro F ι Hs cs pins s σ H x y v u Q d e z R I rx ry hd he hg q
  simp only [Option.map_eq_some_iff] at hg
  obtain ⟨b, hb, rfl⟩ := hg
  exact h F ι Hs cs pins s σ H x y v u Q d e b R I rx ry hd he hb (q.bl R)
theorem te_cmp {o : CmpOp} (hK : X.K = T.K) (hu : X.A.units + 64 < cLine) (ha : PE X a (TE' T F W fa)) (hb : PE X b (TE' T F W fb)) (hm : behindInMarks o b = false) : PE X (.Compare a [o] [b] pos) (TE' T F W (two (gCmpR o) fa fb)) :=
  PE.imp (pe_cmpR (CmG.o (cmp_g hK hu o)).r ha hb hm) fun _ _ _ h => two_read h
theorem bl_of {Hs : Hp} {ι : List Addr} {v : V} {b : Bool} (h : Rp T Hs ι v (.bl b)) : v = .bl b := by cases h; rfl
theorem tt_cmp {o : CmpOp} (hK : X.K = T.K) (hu : X.A.units + 64 < cLine) (ha : PE X a (TE' T F W fa)) (hb : PE X b (TE' T F W fb)) (hm : behindInMarks o b = false) :
    PT X (.Compare a [o] [b] pos) (TT' T F W fun st => (two (gCmpR o) fa fb st).bind truO) :=
  PT.imp (pt_cmpR (CmG.o (cmp_g hK hu o)).r ha hb hm) fun σ H Q ⟨ι, Hs, st, R, h⟩ => two_readK R h fun ι1 Hs1 H1 st1 v d e z R1 r1 hg h1 => by
    simp only [Option.map_eq_some_iff] at hg
    obtain ⟨b, _, rfl⟩ := hg
    exact ⟨b, bl_of r1, h1.done R1 rfl⟩
/-- truth -/
theorem tru_of {Hs H : Hp} {ι : List Addr} {v : V} {d : D} {t : Bool} (hK : X.K = T.K) (e : Same Hs H) (h : RpT T Hs H ι v d) (ht : gTru d = some t) : TruV X.K v H t := by
  cases d with
  | non => cases h.non; cases ht; rfl
  | bl b => cases h.bl; cases ht; rfl
  | int i => cases h.int; cases ht; rfl
  | str x =>
    cases h.str
    simp only [gTru] at ht
    split at ht
    · next z => cases ht; exact ⟨by rw [line_eq]; exact z, rfl⟩
    · cases ht
  | lst xs =>
    obtain ⟨a, vs, rfl, h1, r⟩ := h
    cases ht
    exact .inl ⟨vs, .of h1, by cases r <;> rfl⟩
  | tup xs =>
    obtain ⟨a, vs, rfl, h1, r⟩ := h.tup
    cases ht
    exact .inr (.inl ⟨vs, .of (e _ _ h1), by cases r <;> rfl⟩)
  | _ => cases ht
theorem tt_plain (hK : X.K = T.K) (ha : PE X a (TE' T F W fa)) (he : ∀ whole, isTrue a X.env whole = (do let v ← whole; standAt a.pos; holding [v] (truthy v))) : PT X a (TT' T F W fun st => (fa st).bind truO) :=
  PT.imp (pt_truth ha he) fun σ H Q ⟨ι, Hs, st, R, h⟩ => Post.first (rep := rE T F) R h fun ι1 Hs1 H1 st1 x r p1 e1 R1 r1 h1 => by
    unfold truO at h1
    cases ev : view st1 r with
    | none => rw [ev] at h1; exact h1.elim
    | some d =>
      rw [ev] at h1
      cases et : gTru d with
      | none => simp only [et] at h1; exact h1.elim
      | some t =>
        simp only [et] at h1
        exact ⟨t, tru_of hK R1.s.sub (R1.view r1 ev) et, h1.done R1 rfl⟩
theorem tt_not {f : Stt → Out Bool} (h : PT X a (TT' T F W f)) : PT X (.UnaryOp .Not a pos) (TT' T F W fun st => (f st).bind fun t s => .ok (!t) s) :=
  PT.imp (pt_not h) fun σ H Q ⟨ι, Hs, st, R, h⟩ => Post.first (rep := rB) R h fun ι1 Hs1 H1 st1 x t p1 e1 R1 r1 h1 => by
    cases (show x = t from r1)
    exact h1.done R1 rfl
end
end Lit
end
section
set_option maxHeartbeats 1000000
namespace Lit
open PySem L2
section
variable {T : Tb} {F : Fr} {W : WX} {X : Cx} {P : Pg} {a b c : Expr} {fa fb fc : Stt → Out Rv} {pos : Pos}
/-- from the outcome of f, then k: the usual beginning -/
theorem te_bind {γ δ : Type} {f : Stt → Out Rv} {σ : L2.St} {H : Hp} {ι : List Addr} {Hs : Hp} {st : Stt} {rep : List Addr → Hp → Hp → Stt → δ → γ → Prop} {k : Rv → Stt → Out γ} {Q : δ → Hp → Prop} {Q1 : VK} (R : Rel T F ι Hs H σ st)
    (h : Post T F W σ rep ι Hs ((f st).bind k) Q)
    (hk : ∀ ι1 Hs1 H1 st1 v r, Rel T F ι1 Hs1 H1 σ st1 → RpR T F ι1 Hs1 H1 σ st1 v r → Post T F W σ rep ι1 Hs1 (k r st1) Q → Q1 v H1) : TE' T F W f σ H Q1 :=
  Post.first (rep := rE T F) R h fun ι1 Hs1 H1 st1 b r _ _ R1 r1 h1 => hk ι1 Hs1 H1 st1 b r R1 r1 h1
/-- .., the value settled -/
theorem te_bindS {γ δ : Type} {f : Stt → Out Rv} {σ : L2.St} {H : Hp} {ι : List Addr} {Hs : Hp} {st : Stt} {rep : List Addr → Hp → Hp → Stt → δ → γ → Prop} {k : Rv → Stt → Out γ} {Q : δ → Hp → Prop} {Q1 : VK} (R : Rel T F ι Hs H σ st)
    (h : Post T F W σ rep ι Hs ((f st).bind k) Q)
    (hk : ∀ ι1 Hs1 H1 st1 v r, Rel T F ι1 Hs1 H1 σ st1 → RpR T F ι1 Hs1 H1 σ st1 v (setl r) → Post T F W σ rep ι1 Hs1 (k r st1) Q → Q1 v H1) : TE' T F W f σ H Q1 :=
  te_bind R h fun ι1 Hs1 H1 st1 v r R1 r1 h1 => by
    obtain ⟨Hs2, e2, R2, r2⟩ := R1.settle r1
    exact hk ι1 Hs2 H1 st1 v r R2 r2 (h1.up (List.prefix_refl _) e2)
/-- .., captured -/
theorem te_bindC {γ δ : Type} {f : Stt → Out Rv} {σ : L2.St} {H : Hp} {ι : List Addr} {Hs : Hp} {st : Stt} {rep : List Addr → Hp → Hp → Stt → δ → γ → Prop} {k : D → Stt → Out γ} {Q : δ → Hp → Prop} {Q1 : VK} (R : Rel T F ι Hs H σ st)
    (h : Post T F W σ rep ι Hs ((f st).bind fun r s => (capO r s).bind k) Q)
    (hk : ∀ ι1 Hs1 H1 st1 v d, Rel T F ι1 Hs1 H1 σ st1 → Rp T Hs1 ι1 v d → Post T F W σ rep ι1 Hs1 (k d st1) Q → Q1 v H1) : TE' T F W f σ H Q1 :=
  te_bind R h fun ι1 Hs1 H1 st1 v r R1 r1 h1 => by
    unfold capO at h1
    cases e : capR r st1 with
    | none => rw [e] at h1; exact h1.elim
    | some p =>
      obtain ⟨d, st2⟩ := p
      rw [e] at h1
      obtain ⟨Hs2, e2, R2, r2⟩ := R1.cap r1 e
      exact hk ι1 Hs2 H1 st2 v d R2 r2 (h1.up (List.prefix_refl _) e2)
def chnF (o p : CmpOp) (fa fb fc : Stt → Out Rv) (st : Stt) : Out Rv := (fa st).bind fun ra s1 => (fb s1).bind fun rb s2 => match view s2 (setl ra), view s2 (setl rb) with
    | some d, some e => match gCmp o d e with
      | some true => (fc s2).bind fun rc s3 => match view s3 (setl rb), view s3 rc with
        | some e', some f => ofOpt (gCmpR p e' f) s3
        | _, _ => .bad
      | some false => .ok (.sh (.bl false)) s2
      | none => .bad
    | _, _ => .bad
theorem chn_read {γ δ : Type} {o p : CmpOp} {σ : L2.St} {H : Hp} {ι : List Addr} {Hs : Hp} {st : Stt} {rep : List Addr → Hp → Hp → Stt → δ → γ → Prop} {k : Rv → Stt → Out γ} {Q : δ → Hp → Prop} {Q1 : VK} (R : Rel T F ι Hs H σ st)
    (h : Post T F W σ rep ι Hs ((chnF o p fa fb fc st).bind k) Q)
    (hk : ∀ ι1 Hs1 H1 st1 b, Rel T F ι1 Hs1 H1 σ st1 → Post T F W σ rep ι1 Hs1 (k (.sh (.bl b)) st1) Q → Q1 (.bl b) H1) :
    tChain (rG T (gCmpR o)) (rG T (gCmpR p)) (TE' T F W fa) (TE' T F W fb) (TE' T F W fc) σ H Q1 := by
  unfold chnF at h
  rw [Out.assoc] at h
  refine te_bindS R h fun ι1 Hs1 H1 st1 x ra R1 r1 h1 => ?_
  rw [Out.assoc] at h1
  refine Post.first (rep := rE T F) R1 h1 fun ι2 Hs2 H2 st2 y rb p2 e2 R2 r2 h2 => ?_
  obtain ⟨Hs2', e2', R2', r2'⟩ := R2.settle r2
  have q1 : RpR T F ι2 Hs2' H2 σ st2 x (setl ra) := RpR.stay r1 p2 (e2.trans e2')
  replace h2 := h2.up (List.prefix_refl _) e2'
  cases ea : view st2 (setl ra) with
  | none => rw [ea] at h2; exact h2.elim
  | some d =>
    cases eb : view st2 (setl rb) with
    | none => rw [ea, eb] at h2; exact h2.elim
    | some e =>
      rw [ea, eb] at h2
      simp only at h2
      cases eg : gCmp o d e with
      | none => rw [eg] at h2; exact h2.elim
      | some t =>
        rw [eg] at h2
        refine ⟨F, ι2, Hs2', st2.cs, d, e, .sh (.bl t), R2'.s, R2'.view q1 ea, R2'.view r2' eb, by unfold gCmpR; rw [eg]; rfl, fun Hs' H' w E n => ?_⟩
        cases (show Rp T Hs' ι2 w (.bl t) from n)
        obtain ⟨R3, n3⟩ := R2'.new E n
        refine ⟨t, rfl, ?_⟩
        have h3 := h2.up (List.prefix_refl _) E.grow
        cases t with
        | false =>
          simp only [Bool.false_eq_true, if_false]
          exact hk ι2 Hs' H' st2 false R3 h3
        | true =>
          simp only [if_true]
          simp only [Out.assoc] at h3
          refine Post.first (rep := rE T F) R3 h3 fun ι4 Hs4 H4 st4 z rc p4 e4 R4 r4 h4 => ?_
          have q2 : RpR T F ι4 Hs4 H4 σ st4 y (setl rb) := RpR.stay r2' p4 (E.grow.trans e4)
          cases ec : view st4 (setl rb) with
          | none => rw [ec] at h4; exact h4.elim
          | some e' =>
            cases ed : view st4 rc with
            | none => rw [ec, ed] at h4; exact h4.elim
            | some f =>
              rw [ec, ed] at h4
              simp only at h4
              cases eh : gCmp p e' f with
              | none => simp only [gCmpR, eh, Option.map_none] at h4; exact h4.elim
              | some t' =>
                have eh' : gCmpR p e' f = some (.sh (.bl t')) := by unfold gCmpR; rw [eh]; rfl
                rw [eh'] at h4
                refine ⟨F, ι4, Hs4, st4.cs, e', f, .sh (.bl t'), R4.s, R4.view q2 ec, R4.view r4 ed, eh', fun Hs5 H5 w5 E5 n5 => ?_⟩
                cases (show Rp T Hs5 ι4 w5 (.bl t') from n5)
                obtain ⟨R5, n5'⟩ := R4.new E5 n5
                exact hk ι4 Hs5 H5 st4 t' R5 (h4.up (List.prefix_refl _) E5.grow)
theorem te_chn {o p : CmpOp} (hK : X.K = T.K) (hu : X.A.units + 64 < cLine) (ha : PE X a (TE' T F W fa)) (hb : PE X b (TE' T F W fb)) (hc : PE X c (TE' T F W fc)) (hm : lastMarks [o, p] [b, c] = false) :
    PE X (.Compare a [o, p] [b, c] pos) (TE' T F W (chnF o p fa fb fc)) :=
  PE.imp (pe_chain (CmG.o (cmp_g hK hu o)).r (CmG.o (cmp_g hK hu p)).r ha hb hc hm) fun σ H Q ⟨ι, Hs, st, R, h⟩ => by
    have e : chnF o p fa fb fc st = (chnF o p fa fb fc st).bind fun r s => .ok r s := by cases chnF o p fa fb fc st <;> rfl
    rw [e] at h
    exact chn_read R h fun ι1 Hs1 H1 st1 b R1 h1 => h1.done R1 (.bl b)
theorem tt_chn {o p : CmpOp} (hK : X.K = T.K) (hu : X.A.units + 64 < cLine) (ha : PE X a (TE' T F W fa)) (hb : PE X b (TE' T F W fb)) (hc : PE X c (TE' T F W fc)) (hm : lastMarks [o, p] [b, c] = false) :
    PT X (.Compare a [o, p] [b, c] pos) (TT' T F W fun st => (chnF o p fa fb fc st).bind truO) :=
  PT.imp (pt_chain (CmG.o (cmp_g hK hu o)).r (CmG.o (cmp_g hK hu p)).r ha hb hc hm) fun σ H Q ⟨ι, Hs, st, R, h⟩ =>
    chn_read R h fun ι1 Hs1 H1 st1 b R1 h1 => ⟨b, rfl, h1.done R1 rfl⟩
theorem te_not (hK : X.K = T.K) (ha : PE X a (TE' T F W fa)) : PE X (.UnaryOp .Not a pos) (TE' T F W fun st => (fa st).bind fun r s => match view s r with
    | some d => ofOpt (gNot d) s
    | none => .bad) :=
  PE.imp (pe_notT ha) fun σ H Q ⟨ι, Hs, st, R, h⟩ => te_bind R h fun ι1 Hs1 H1 st1 v r R1 r1 h1 => by
    cases ev : view st1 r with
    | none => rw [ev] at h1; exact h1.elim
    | some d =>
      rw [ev] at h1
      unfold gNot at h1
      cases et : gTru d with
      | none => simp only [et] at h1; exact h1.elim
      | some t =>
        simp only [et] at h1
        exact ⟨t, tru_of hK R1.s.sub (R1.view r1 ev) et, h1.done R1 (.bl (!t))⟩
theorem tt_notE (h : PT X a (TT' T F W fun st => (fa st).bind truO)) : PT X (.UnaryOp .Not a pos) (TT' T F W fun st => ((fa st).bind fun r s => match view s r with
    | some d => ofOpt (gNot d) s
    | none => .bad).bind truO) := by
  have e : (fun st => ((fa st).bind fun r s => match view s r with
    | some d => ofOpt (gNot d) s
    | none => .bad).bind truO) = fun st => ((fa st).bind truO).bind fun t s => .ok (!t) s := by
    funext st
    rw [Out.assoc, Out.assoc]
    cases fa st with
    | bad => rfl
    | exc x s => rfl
    | ok r s =>
      show Out.bind (match view s r with
        | some d => ofOpt (gNot d) s
        | none => .bad) truO = (truO r s).bind _
      unfold truO
      cases view s r with
      | none => rfl
      | some d =>
        simp only [gNot]
        cases gTru d with
        | none => rfl
        | some t => rfl
  rw [e]
  exact tt_not h
theorem te_ife {fc : Stt → Out Bool} (hc : PT X c (TT' T F W fc)) (ha : PE X a (TE' T F W fa)) (hb : PE X b (TE' T F W fb)) : PE X (.IfExp c a b pos) (TE' T F W fun st => (fc st).bind fun t s1 => match t with
    | true => fa s1
    | false => fb s1) :=
  PE.imp (pe_ifExp hc ha hb) fun σ H Q ⟨ι, Hs, st, R, h⟩ => Post.first (rep := rB) R h fun ι1 Hs1 H1 st1 x t p1 e1 R1 r1 h1 => by
    cases (show x = t from r1)
    cases x with
    | true => simp only [if_true]; exact ⟨ι1, Hs1, st1, R1, h1⟩
    | false => simp only [Bool.false_eq_true, if_false]; exact ⟨ι1, Hs1, st1, R1, h1⟩
theorem truO_of {r : Rv} {s : Stt} {d : D} (e : view s r = some d) : truO r s = ofOpt (gTru d) s := by unfold truO; rw [e]
theorem truO_bl {b : Bool} {s : Stt} : truO (.sh (.bl b)) s = .ok b s := rfl
theorem te_neg (ha : PE X a (TE' T F W fa)) : PE X (.UnaryOp .USub a pos) (TE' T F W fun st => (fa st).bind fun r s => match view s r with
    | some (.int i) => .ok (.sh (.int (-i))) s
    | _ => .bad) :=
  PE.imp (pe_un un_neg ha) fun σ H Q ⟨ι, Hs, st, R, h⟩ => te_bind R h fun ι1 Hs1 H1 st1 v r R1 r1 h1 => by
    split at h1
    · next i e =>
      cases (R1.view r1 e).int
      exact ⟨i, rfl, h1.done R1 (.int (-i))⟩
    · exact h1.elim
/-- and, or: all but the last are truth values -/
def andF (fa fr : Stt → Out Rv) (st : Stt) : Out Rv := (fa st).bind fun r s => match view s r with
    | some (.bl true) => fr s
    | some (.bl false) => .ok (.sh (.bl false)) s
    | _ => .bad
def orF (fa fr : Stt → Out Rv) (st : Stt) : Out Rv := (fa st).bind fun r s => match view s r with
    | some (.bl false) => fr s
    | some (.bl true) => .ok (.sh (.bl true)) s
    | _ => .bad
variable {rest : List Expr}
theorem te_and (ha : PE X a (TE' T F W fa)) (hb : PE X (.BoolOp .And (b :: rest) pos) (TE' T F W fb)) : PE X (.BoolOp .And (a :: b :: rest) pos) (TE' T F W (andF fa fb)) :=
  PE.imp (pe_and ha hb) fun σ H Q ⟨ι, Hs, st, R, h⟩ => te_bind R h fun ι1 Hs1 H1 st1 v r R1 r1 h1 => by
    split at h1
    · next e =>
      cases (R1.view r1 e).bl
      exact ⟨true, rfl, by simp only [if_true]; exact ⟨ι1, Hs1, st1, R1, h1⟩⟩
    · next e =>
      cases (R1.view r1 e).bl
      exact ⟨false, rfl, by simp only [Bool.false_eq_true, if_false]; exact h1.done R1 (.bl false)⟩
    · exact h1.elim
theorem te_or (ha : PE X a (TE' T F W fa)) (hb : PE X (.BoolOp .Or (b :: rest) pos) (TE' T F W fb)) : PE X (.BoolOp .Or (a :: b :: rest) pos) (TE' T F W (orF fa fb)) :=
  PE.imp (pe_or ha hb) fun σ H Q ⟨ι, Hs, st, R, h⟩ => te_bind R h fun ι1 Hs1 H1 st1 v r R1 r1 h1 => by
    split at h1
    · next e =>
      cases (R1.view r1 e).bl
      exact ⟨false, rfl, by simp only [Bool.false_eq_true, if_false]; exact ⟨ι1, Hs1, st1, R1, h1⟩⟩
    · next e =>
      cases (R1.view r1 e).bl
      exact ⟨true, rfl, by simp only [if_true]; exact h1.done R1 (.bl true)⟩
    · exact h1.elim
theorem tw_and (ha : PT X a (TT' T F W fun st => (fa st).bind truO)) (hb : PW X (.BoolOp .And (b :: rest) pos) (TT' T F W fun st => (fb st).bind truO)) :
    PW X (.BoolOp .And (a :: b :: rest) pos) (TT' T F W fun st => (andF fa fb st).bind truO) :=
  PW.imp (pw_and ha hb) fun σ H Q ⟨ι, Hs, st, R, h⟩ => by
    have e : (andF fa fb st).bind truO = ((fa st).bind truO).bind (fun t s => match t with
        | true => (fb s).bind truO
        | false => .ok false s) ∨ (andF fa fb st).bind truO = .bad := by
      unfold andF
      cases fa st with
      | bad => exact .inl rfl
      | exc x s => exact .inl rfl
      | ok r s =>
        simp only [Out.bind_ok]
        split
        · next e => left; rw [truO_of e]; rfl
        · next e => left; rw [truO_of e, Out.bind_ok, truO_bl]; rfl
        · right; rfl
    rcases e with e | e
    · simp only [e] at h
      refine Post.first (rep := rB) R h fun ι1 Hs1 H1 st1 x t p1 e1 R1 r1 h1 => ?_
      cases (show x = t from r1)
      cases x with
      | true => simp only [if_true]; exact ⟨ι1, Hs1, st1, R1, h1⟩
      | false => simp only [Bool.false_eq_true, if_false]; exact h1.done R1 rfl
    · simp only [e] at h
      exact h.elim
theorem tw_or (ha : PT X a (TT' T F W fun st => (fa st).bind truO)) (hb : PW X (.BoolOp .Or (b :: rest) pos) (TT' T F W fun st => (fb st).bind truO)) :
    PW X (.BoolOp .Or (a :: b :: rest) pos) (TT' T F W fun st => (orF fa fb st).bind truO) :=
  PW.imp (pw_or ha hb) fun σ H Q ⟨ι, Hs, st, R, h⟩ => by
    have e : (orF fa fb st).bind truO = ((fa st).bind truO).bind (fun t s => match t with
        | false => (fb s).bind truO
        | true => .ok true s) ∨ (orF fa fb st).bind truO = .bad := by
      unfold orF
      cases fa st with
      | bad => exact .inl rfl
      | exc x s => exact .inl rfl
      | ok r s =>
        simp only [Out.bind_ok]
        split
        · next e => left; rw [truO_of e]; rfl
        · next e => left; rw [truO_of e, Out.bind_ok, truO_bl]; rfl
        · right; rfl
    rcases e with e | e
    · simp only [e] at h
      refine Post.first (rep := rB) R h fun ι1 Hs1 H1 st1 x t p1 e1 R1 r1 h1 => ?_
      cases (show x = t from r1)
      cases x with
      | false => simp only [Bool.false_eq_true, if_false]; exact ⟨ι1, Hs1, st1, R1, h1⟩
      | true => simp only [if_true]; exact h1.done R1 rfl
    · simp only [e] at h
      exact h.elim
end
end Lit
end
section
set_option maxHeartbeats 1000000
namespace Lit
open PySem L2 PyProof.Rows
def SeR (T : Tb) (σ : L2.St) (ι : List Addr) (Hs : Hp) (v : V) : Rv → Prop
  | .sh d => Rp T Hs ι v d
  | .rf i => σ[i]? = some (some v)
  | .fr _ => False
abbrev rL (T : Tb) : L2.St → List Addr → Hp → Hp → Stt → List V → List Rv → Prop := fun σ ι Hs _ _ vs rs => Paired (SeR T σ ι Hs) vs rs
abbrev TL' (T : Tb) (F : Fr) (W : WX) (f : Stt → Out (List Rv)) : TA := Tm T F W (rL T) f
def RpTs (T : Tb) (Hs H : Hp) (ι : List Addr) : List V → List D → Prop := Paired (RpT T Hs H ι)
section
variable {T : Tb} {F : Fr} {W : WX} {X : Cx} {P : Pg} {a b c : Expr} {es : List Expr} {fa fb : Stt → Out Rv} {pos : Pos}
theorem SeR.of {σ : L2.St} {ι : List Addr} {Hs H : Hp} {st : Stt} {v : V} {r : Rv} (h : RpR T F ι Hs H σ st v (setl r)) : SeR T σ ι Hs v (setl r) := by
  cases r <;> exact h
theorem SeR.to {σ : L2.St} {ι : List Addr} {Hs H : Hp} {st : Stt} {v : V} {r : Rv} (h : SeR T σ ι Hs v r) : RpR T F ι Hs H σ st v r := by
  cases r with
  | fr xs => exact h.elim
  | _ => exact h
theorem SeR.up {σ : L2.St} {ι ι' : List Addr} {Hs Hs' : Hp} {v : V} {r : Rv} (h : SeR T σ ι Hs v r) (p : ι <+: ι') (e : Same Hs Hs') : SeR T σ ι' Hs' v r := by
  cases r with
  | fr xs => exact h.elim
  | sh d => exact Rp.up (show Rp T Hs ι v d from h) e p
  | rf i => exact h
theorem Rel.viewS {σ : L2.St} {ι : List Addr} {Hs H : Hp} {st : Stt} (Q : Rel T F ι Hs H σ st) : ∀ {vs : List V} {rs : List Rv} {ds : List D}, Paired (SeR T σ ι Hs) vs rs → views st rs = some ds → RpTs T Hs H ι vs ds
  | _, _, _, .nil, h => by cases h; exact .nil
  | _, _, _, .cons (b := r) h1 hr, h => by
    simp only [views] at h
    split at h
    · next d ds e1 e2 => cases h; exact .cons (Q.view h1.to e1) (Q.viewS hr e2)
    · cases h
theorem ta_nil : PA X [] (TA' T F W fun st => .ok [] st) := PA.imp pa_nil fun σ H Q ⟨ι, Hs, st, R, h⟩ => h.done R .nil
theorem ta_cons {g : Stt → Out (List D)} (ha : PE X a (TE' T F W fa)) (hr : PA X es (TA' T F W g)) (hs : starEach (a :: es) X.env = (false, eval a X.env) :: starEach es X.env) :
    PA X (a :: es) (TA' T F W fun st => (fa st).bind fun r s => (capO r s).bind fun d s1 => (g s1).bind fun ds s2 => .ok (d :: ds) s2) :=
  PA.imp (pa_cons ha hr hs) fun σ H Q ⟨ι, Hs, st, R, h⟩ => te_bindC R h fun ι1 Hs1 H1 st1 v d R1 r1 h1 =>
    Post.first (rep := rA T) R1 h1 fun ι2 Hs2 H2 st2 vs ds p2 e2 R2 r2 h2 => h2.done R2 (.cons (r1.up e2 p2) r2)
theorem tl_nil : PA X [] (TL' T F W fun st => .ok [] st) := PA.imp pa_nil fun σ H Q ⟨ι, Hs, st, R, h⟩ => h.done R .nil
theorem tl_cons {g : Stt → Out (List Rv)} (ha : PE X a (TE' T F W fa)) (hr : PA X es (TL' T F W g)) (hs : starEach (a :: es) X.env = (false, eval a X.env) :: starEach es X.env) :
    PA X (a :: es) (TL' T F W fun st => (fa st).bind fun r s => (g s).bind fun rs s' => .ok (setl r :: rs) s') :=
  PA.imp (pa_cons ha hr hs) fun σ H Q ⟨ι, Hs, st, R, h⟩ => te_bindS R h fun ι1 Hs1 H1 st1 v d R1 r1 h1 =>
    Post.first (rep := rL T) R1 h1 fun ι2 Hs2 H2 st2 vs ds p2 e2 R2 r2 h2 => h2.done R2 (.cons ((SeR.of r1).up p2 e2) r2)
theorem te_lst {g : Stt → Out (List D)} (ha : PA X es (TA' T F W g)) : PE X (.List es pos) (TE' T F W fun st => (g st).bind fun ds s => if ds.length ≤ 16777216 then .ok (.fr ds) s else .bad) :=
  PE.imp (pe_lst ha) fun σ H Q ⟨ι, Hs, st, R, h⟩ => Post.first (rep := rA T) R h fun ι1 Hs1 H1 st1 vs ds p1 e1 R1 r1 h1 => by
    split at h1
    · next hz =>
      refine ⟨by rw [line_eq, r1.length]; exact hz, fun p hp => ?_⟩
      obtain ⟨f1, f2, f3⟩ := R1.s.fresh hp
      have n := R1.new (R1.s.allocN hp) (z := .ref p) (r := .fr ds) ⟨p, vs, rfl, hp, f1, upd_same, r1⟩
      exact h1 ι1 Hs1 _ _ (List.prefix_refl _) (Same.refl _) n.1 n.2
    · exact h1.elim
theorem te_tup {x : Nat} {g : Stt → Out (List D)} (ha : PA X es (TA' T F W g)) : PE X (.Tuple es x pos) (TE' T F W fun st => (g st).bind fun ds s => if ds.length ≤ 16777216 then .ok (.sh (.tup ds)) s else .bad) :=
  PE.imp (pe_tup ha) fun σ H Q ⟨ι, Hs, st, R, h⟩ => Post.first (rep := rA T) R h fun ι1 Hs1 H1 st1 vs ds p1 e1 R1 r1 h1 => by
    split at h1
    · next hz =>
      refine ⟨by rw [line_eq, r1.length]; exact hz, fun p hp => ?_⟩
      have e : Same Hs1 (upd Hs1 p (.tup vs)) := same_upd (R1.s.fresh hp).1
      exact h1 ι1 _ _ _ (List.prefix_refl _) e (R1.alloc hp) (.tup upd_same (r1.up e (List.prefix_refl _)))
    · exact h1.elim
/-- a new shared cell -/
theorem SR.newCell {ι : List Addr} {Hs H : Hp} {cs : List Cell} (R : SR T F ι Hs H cs) {p : Addr} {o : HO} {c : Cell} (hp : H p = none) (hc : CellR T Hs (upd H p o) (ι ++ [p]) p c) : SR T (here H ι Hs) (ι ++ [p]) Hs (upd H p o) (cs ++ [c]) := by
  obtain ⟨f1, f2, f3⟩ := R.fresh hp
  refine ⟨R.sub.trans (same_upd hp), List.prefix_append _ _, fun a u e _ => same_upd hp a u e, fun a u e => .inl e, Same.refl _, ?_, fun a m => ?_, fun a m => ?_, by rw [List.length_append, List.length_append, R.len]; rfl, fun n a c' e1 e2 => ?_, nokp⟩
  · rw [List.nodup_append]
    refine ⟨R.inj, by simp, fun x hx y hy e => ?_⟩
    have : y = p := by simpa using hy
    exact f3 (by rw [← this, ← e]; exact hx)
  · rcases List.mem_append.mp m with m | m
    · exact R.io a m
    · have : a = p := by simpa using m
      rw [this]; exact f1
  · rcases List.mem_append.mp m with m | m
    · exact .inl m
    · have : a = p := by simpa using m
      rw [this]; exact .inr hp
  · by_cases hn : n < ι.length
    · rw [List.getElem?_append_left hn] at e1
      rw [List.getElem?_append_left (by rw [← R.len]; exact hn)] at e2
      have z := R.cell n a c' e1 e2
      have hne : a ≠ p := fun e => by
        have := List.mem_of_getElem? e1
        exact f3 (e ▸ this)
      exact z.up (Same.refl _) (List.prefix_append _ _) (upd_ne hne)
    · have hl : n < (ι ++ [p]).length := (List.getElem?_eq_some_iff.mp e1).1
      have en : n = ι.length := by rw [List.length_append] at hl; simp at hl; omega
      subst en
      rw [List.getElem?_append_right (Nat.le_refl _)] at e1
      rw [List.getElem?_append_right (by rw [R.len]; exact Nat.le_refl _)] at e2
      simp at e1
      simp [R.len] at e2
      subst e1 e2
      exact hc
theorem te_cell {g : Stt → Out (List D)} (ha : PA X es (TA' T F W g)) : PE X (.List es pos) (TE' T F W fun st => (g st).bind fun ds s => if ds.length ≤ 16777216 then .ok (.sh (.own s.cs.length)) { s with cs := s.cs ++ [.lst ds] } else .bad) :=
  PE.imp (pe_lst ha) fun σ H Q ⟨ι, Hs, st, R, h⟩ => Post.first (rep := rA T) R h fun ι1 Hs1 H1 st1 vs ds p1 e1 R1 r1 h1 => by
    split at h1
    · next hz =>
      refine ⟨by rw [line_eq, r1.length]; exact hz, fun p hp => ?_⟩
      have E := R1.s.newCell hp (c := .lst ds) (o := .lst vs) ⟨vs, upd_same, r1.up (Same.refl _) (List.prefix_append _ _)⟩
      have R2 := R1.step E
      refine h1 _ _ _ _ (List.prefix_append _ [p]) (Same.refl _) R2 (.own ?_)
      rw [← R1.s.len]
      simp
    · exact h1.elim
theorem atI_map {vs : List V} {xs : List D} {Hs : Hp} {ι : List Addr} (r : RpL T Hs ι vs xs) {i : Int} {d : D} (h : atI xs i = some d) : ∃ v, atI vs i = some v ∧ Rp T Hs ι v d := by
  unfold atI at h ⊢
  rw [r.length]
  cases e : ixN xs.length i with
  | none => rw [e] at h; cases h
  | some j =>
    rw [e] at h
    exact r.get h
theorem ix_g : IxR X (rG T gIx) := by
  intro value slice pins s σ H x y v u Q I rx ry h hs
  obtain ⟨F, ι, Hs, cs, d, e, z, R, h1, h2, hg, q⟩ := h
  cases e with
  | int i =>
    cases h2.int
    cases d with
    | lst xs =>
      obtain ⟨a, vs, rfl, h3, r⟩ := h1
      simp only [gIx, Option.map_eq_some_iff] at hg
      obtain ⟨d, hd, rfl⟩ := hg
      obtain ⟨w, hw, rw_⟩ := atI_map r hd
      exact ix_list value slice pins s σ H _ _ v u Q I rx ry ⟨a, vs, i, w, rfl, rfl, .of h3, hw, q.sh R rw_⟩ hs
    | tup xs =>
      obtain ⟨a, vs, rfl, h3, r⟩ := h1.tup
      simp only [gIx, Option.map_eq_some_iff] at hg
      obtain ⟨d, hd, rfl⟩ := hg
      obtain ⟨w, hw, rw_⟩ := atI_map r hd
      exact ix_tup value slice pins s σ H _ _ v u Q I rx ry ⟨a, vs, i, w, rfl, rfl, .of (R.sub _ _ h3), hw, q.sh R rw_⟩ hs
    | str x =>
      cases h1.str
      simp only [gIx] at hg
      split at hg
      · next hz =>
        simp only [Option.map_eq_some_iff] at hg
        obtain ⟨c, hc, rfl⟩ := hg
        exact ix_str value slice pins s σ H _ _ v u Q I rx ry ⟨x, i, c, rfl, rfl, by rw [line_eq]; exact hz, hc, q.str R⟩ hs
      · cases hg
    | _ => cases hg
  | _ => cases d <;> cases hg
theorem te_ix (ha : PE X a (TE' T F W fa)) (hb : PE X b (TE' T F W fb)) (hp : PlainIx b) : PE X (.Subscript a b pos) (TE' T F W (two gIx fa fb)) :=
  PE.imp (pe_ix ix_g ha hb hp) fun _ _ _ h => two_read h
/-- parts of a slice -/
abbrev TO' (T : Tb) (F : Fr) (W : WX) (f : Stt → Out (Option Int)) : TO := Tm T F W (fun _ _ _ _ _ (o : Option Int) (p : Option Int) => o = p) f
theorem PO.imp {e : Option Expr} {t t' : TO} (h : PO X e t) (q : ∀ σ H Q, t' σ H Q → t σ H Q) : PO X e t' := ⟨fun pins s σ H Q I z => h.run pins s σ H Q I (q σ H Q z)⟩
theorem to_none : PO X none (TO' T F W fun st => .ok none st) := PO.imp po_none fun σ H Q ⟨ι, Hs, st, R, h⟩ => h.done R rfl
theorem to_some (ha : PE X a (TE' T F W fa)) : PO X (some a) (TO' T F W fun st => (fa st).bind partO) :=
  PO.imp (po_some ha) fun σ H Q ⟨ι, Hs, st, R, h⟩ => te_bind R h fun ι1 Hs1 H1 st1 v r R1 r1 h1 => by
    unfold partO at h1
    split at h1
    · next i e =>
      cases (R1.view r1 e).int
      exact ⟨i, rfl, h1.done R1 rfl⟩
    · exact h1.elim
theorem cutD_of {vs : List V} {xs : List D} {Hs : Hp} {ι : List Addr} (r : RpL T Hs ι vs xs) (lo hi : Option Int) : RpL T Hs ι (cutV vs lo hi) (cutD xs lo hi) := by
  unfold cutV cutD
  rw [r.length]
  exact (r.drop _).take _
theorem te_sl {lo hi : Option Expr} {p2 : Pos} {fl fh : Stt → Out (Option Int)} (ha : PE X a (TE' T F W fa)) (hl : PO X lo (TO' T F W fl)) (hh : PO X hi (TO' T F W fh)) :
    PE X (.Subscript a (.Slice lo hi none p2) pos) (TE' T F W fun st => (fa st).bind fun ra s1 => (fl s1).bind fun l s2 => (fh s2).bind fun h s3 => match view s3 (setl ra) with
      | some d => ofOpt (gSl d l h) s3
      | none => .bad) :=
  PE.imp (pe_slice (sl_list.or (sl_tupA.or sl_str)) ha hl hh) fun σ H Q ⟨ι, Hs, st, R, h⟩ => te_bindS R h fun ι1 Hs1 H1 st1 v r R1 r1 h1 =>
    Post.first (rep := fun _ _ _ _ _ (o : Option Int) (p : Option Int) => o = p) R1 h1 fun ι2 Hs2 H2 st2 l l' p2 e2 R2 r2 h2 => by
      cases (show l = l' from r2)
      refine Post.first (rep := fun _ _ _ _ _ (o : Option Int) (p : Option Int) => o = p) R2 h2 fun ι3 Hs3 H3 st3 m m' p3 e3 R3 r3 h3 => ?_
      cases (show m = m' from r3)
      have q1 : RpR T F ι3 Hs3 H3 σ st3 v (setl r) := RpR.stay r1 (p2.trans p3) (e2.trans e3)
      cases ev : view st3 (setl r) with
      | none => rw [ev] at h3; exact h3.elim
      | some d =>
        rw [ev] at h3
        have hd := R3.view q1 ev
        cases d with
        | lst xs =>
          obtain ⟨p, vs, rfl, hp, rr⟩ := hd
          refine .inl ⟨p, vs, rfl, .of hp, fun q hq => ?_⟩
          have n := R3.new (R3.s.allocN hq) (z := .ref q) (r := .fr (cutD xs l m)) ⟨q, _, rfl, hq, (R3.s.fresh hq).1, upd_same, cutD_of rr l m⟩
          exact h3 ι3 Hs3 _ _ (List.prefix_refl _) (Same.refl _) n.1 n.2
        | tup xs =>
          obtain ⟨p, vs, rfl, hp, rr⟩ := hd.tup
          refine .inr (.inl ⟨p, vs, rfl, .of (R3.s.sub _ _ hp), fun hw => ?_, fun hw q hq => ?_⟩)
          · rw [rr.length] at hw
            simp only [gSl, if_pos hw, ofOpt_some] at h3
            exact h3.done R3 (.tup hp rr)
          · rw [rr.length] at hw
            simp only [gSl, if_neg hw, ofOpt_some] at h3
            have e : Same Hs3 (upd Hs3 q (.tup (cutV vs l m))) := same_upd (R3.s.fresh hq).1
            exact h3 ι3 _ _ _ (List.prefix_refl _) e (R3.alloc hq) (.tup upd_same ((cutD_of rr l m).up e (List.prefix_refl _)))
        | str x =>
          cases hd.str
          simp only [gSl] at h3
          split at h3
          · next hz => exact .inr (.inr ⟨x, rfl, by rw [line_eq]; exact hz, h3.done R3 (.str _)⟩)
          · exact h3.elim
        | _ => exact h3.elim
def Bi.nm : Bi → Str
  | .len => "len" | .int => "int" | .str => "str" | .list => "list" | .tuple => "tuple" | .sorted => "sorted" | .max => "max" | .min => "min" | .sum => "sum" | .all => "all" | .any => "any" | .bool => "bool"
def Bi.val : Bi → Value
  | .len => .builtin "len" | .int => .type "int" | .str => .type "str" | .list => .type "list" | .tuple => .type "tuple" | .sorted => .builtin "sorted" | .max => .builtin "max" | .min => .builtin "min" | .sum => .builtin "sum" | .all => .builtin "all" | .any => .builtin "any" | .bool => .type "bool"
def rC (T : Tb) (g : List D → Option Rv) : List V → Hp → VK → Prop := fun xs H Q => ∃ (F : Fr) (ι : List Addr) (Hs : Hp) (cs : List Cell) (ds : List D) (z : Rv), SR T F ι Hs H cs ∧ RpTs T Hs H ι xs ds ∧ g ds = some z ∧ Fol T ι Hs H cs z Q
theorem ins1_perm (i : Int) : ∀ l : List Int, (ins1 i l).Perm (i :: l)
  | [] => List.Perm.refl _
  | j :: r => by
    unfold ins1
    split
    · exact List.Perm.refl _
    · exact ((ins1_perm i r).cons j).trans (List.Perm.swap i j r)
theorem isort_perm : ∀ l : List Int, (isort l).Perm l
  | [] => List.Perm.refl _
  | i :: r => (ins1_perm i _).trans ((isort_perm r).cons i)
theorem ins1_mem {i x : Int} {l : List Int} : x ∈ ins1 i l ↔ x = i ∨ x ∈ l := by
  rw [(ins1_perm i l).mem_iff, List.mem_cons]
theorem ins1_sorted (i : Int) : ∀ l : List Int, l.Pairwise (· ≤ ·) → (ins1 i l).Pairwise (· ≤ ·)
  | [], _ => by simp [ins1]
  | j :: r, h => by
    have h1 := List.pairwise_cons.mp h
    unfold ins1
    split
    · next hij =>
      refine List.pairwise_cons.mpr ⟨fun x hx => ?_, h⟩
      rcases List.mem_cons.mp hx with rfl | hx
      · exact hij
      · exact Int.le_trans hij (h1.1 x hx)
    · next hij =>
      refine List.pairwise_cons.mpr ⟨fun x hx => ?_, ins1_sorted i r h1.2⟩
      rcases ins1_mem.mp hx with rfl | hx
      · omega
      · exact h1.1 x hx
theorem isort_sorted : ∀ l : List Int, (isort l).Pairwise (· ≤ ·)
  | [] => List.Pairwise.nil
  | i :: r => ins1_sorted i _ (isort_sorted r)
theorem isort_uniq {a l : List Int} (h : a.Perm l) (hs : a.Pairwise (· ≤ ·)) : a = isort l := PySem.W.ksm_same (h.trans (isort_perm l).symm) hs (isort_sorted l)
theorem imax_spec : ∀ (l : List Int) (m : Int), imax m l ∈ m :: l ∧ ∀ y ∈ m :: l, y ≤ imax m l
  | [], m => ⟨List.mem_cons_self, fun y hy => by simp at hy; show y ≤ m; omega⟩
  | j :: r, m => by
    obtain ⟨h1, h2⟩ := imax_spec r (if m < j then j else m)
    have e : imax m (j :: r) = imax (if m < j then j else m) r := rfl
    rw [e]
    refine ⟨?_, fun y hy => ?_⟩
    · rcases List.mem_cons.mp h1 with h | h
      · rw [h]; split <;> simp
      · simp [h]
    · have h3 := h2 _ (List.mem_cons_self (a := if m < j then j else m) (l := r))
      generalize hz : imax (if m < j then j else m) r = z at h3 h2 ⊢
      rcases List.mem_cons.mp hy with rfl | hy
      · split at h3 <;> omega
      · rcases List.mem_cons.mp hy with rfl | hy
        · split at h3 <;> omega
        · exact h2 y (List.mem_cons_of_mem _ hy)
theorem imin_spec : ∀ (l : List Int) (m : Int), imin m l ∈ m :: l ∧ ∀ y ∈ m :: l, imin m l ≤ y
  | [], m => ⟨List.mem_cons_self, fun y hy => by simp at hy; show m ≤ y; omega⟩
  | j :: r, m => by
    obtain ⟨h1, h2⟩ := imin_spec r (if j < m then j else m)
    have e : imin m (j :: r) = imin (if j < m then j else m) r := rfl
    rw [e]
    refine ⟨?_, fun y hy => ?_⟩
    · rcases List.mem_cons.mp h1 with h | h
      · rw [h]; split <;> simp
      · simp [h]
    · have h3 := h2 _ (List.mem_cons_self (a := if j < m then j else m) (l := r))
      generalize hz : imin (if j < m then j else m) r = z at h3 h2 ⊢
      rcases List.mem_cons.mp hy with rfl | hy
      · split at h3 <;> omega
      · rcases List.mem_cons.mp hy with rfl | hy
        · split at h3 <;> omega
        · exact h2 y (List.mem_cons_of_mem _ hy)
theorem intsOf_eq : ∀ {xs : List D} {ns : List Int}, intsOf xs = some ns → xs = ns.map D.int
  | [], _, h => by cases h; rfl
  | d :: ds, ns, h => by
    cases d with
    | int i =>
      simp only [intsOf, Option.map_eq_some_iff] at h
      obtain ⟨ms, h1, rfl⟩ := h
      rw [intsOf_eq h1]; rfl
    | _ => cases h
theorem strsOf_eq : ∀ {xs : List D} {ns : List Str}, strsOf xs = some ns → xs = ns.map D.str
  | [], _, h => by cases h; rfl
  | d :: ds, ns, h => by
    cases d with
    | str i =>
      simp only [strsOf, Option.map_eq_some_iff] at h
      obtain ⟨ms, h1, rfl⟩ := h
      rw [strsOf_eq h1]; rfl
    | _ => cases h
theorem bolsOf_eq : ∀ {xs : List D} {ns : List Bool}, bolsOf xs = some ns → xs = ns.map D.bl
  | [], _, h => by cases h; rfl
  | d :: ds, ns, h => by
    cases d with
    | bl i =>
      simp only [bolsOf, Option.map_eq_some_iff] at h
      obtain ⟨ms, h1, rfl⟩ := h
      rw [bolsOf_eq h1]; rfl
    | _ => cases h
theorem of_bols {Hs : Hp} {ι : List Addr} : ∀ {ns : List Bool} {vs : List V}, RpL T Hs ι vs (ns.map D.bl) → vs = ns.map V.bl
  | [], _, .nil => rfl
  | n :: ns, _, .cons (.bl _) r => by rw [List.map_cons, ← of_bols r]
end
end Lit
end
section
set_option maxHeartbeats 1000000
namespace Lit
open PySem L2 PyProof.Rows
section
variable {T : Tb} {F : Fr} {W : WX} {X : Cx} {P : Pg} {a b c : Expr} {es : List Expr} {fa fb : Stt → Out Rv} {pos : Pos}
theorem one_inv {Hs H : Hp} {ι : List Addr} {xs : List V} {d : D} (h : RpTs T Hs H ι xs [d]) : ∃ v, xs = [v] ∧ RpT T Hs H ι v d := by
  cases h with
  | cons h1 r => cases r; exact ⟨_, rfl, h1⟩
theorem bi_g (hc : X.calm = true) (hK : X.K = T.K) : ∀ f : Bi, CallR X f.val (rC T (gBi f)) := by
  intro f pins s σ H xs us Q I rv h
  obtain ⟨F, ι, Hs, cs, ds, z, R, h1, hg, q⟩ := h
  rcases ds with _ | ⟨d, _ | ⟨d2, r⟩⟩
  · cases f <;> cases hg
  · obtain ⟨v, rfl, hd⟩ := one_inv h1
    cases f with
    | len =>
      cases d with
      | lst xs =>
        obtain ⟨p, vs, rfl, hp, r⟩ := hd
        cases hg
        exact call_len_seq pins s σ H _ us Q I rv ⟨p, vs, rfl, .inl (.of hp), by rw [r.length]; exact q.int R⟩
      | tup xs =>
        obtain ⟨p, vs, rfl, hp, r⟩ := hd.tup
        cases hg
        exact call_len_seq pins s σ H _ us Q I rv ⟨p, vs, rfl, .inr (.of (R.sub _ _ hp)), by rw [r.length]; exact q.int R⟩
      | str x =>
        cases hd.str
        simp only [gBi] at hg
        split at hg
        · next hz => cases hg; exact call_len_str pins s σ H _ us Q I rv ⟨x, rfl, by rw [line_eq]; exact hz, q.int R⟩
        · cases hg
      | _ => cases hg
    | int =>
      cases d with
      | int i => cases hd.int; cases hg; exact call_int1 pins s σ H _ us Q I rv (.inl ⟨i, rfl, q.int R⟩)
      | str x =>
        cases hd.str
        simp only [gBi] at hg
        split at hg
        · next n hn =>
          split at hg
          · next hz => cases hg; exact call_int_str pins s σ H _ us Q I rv ⟨x, n, rfl, hn, hz, q.int R⟩
          · cases hg
        · cases hg
      | _ => cases hg
    | str =>
      cases d with
      | int i =>
        cases hd.int
        simp only [gBi] at hg
        split at hg
        · next hz =>
          cases hg
          exact call_str_int pins s σ H _ us Q I rv ⟨i, rfl, Nat.lt_of_lt_of_le (PySem.Flt.log2_lt_of (by decide) hz) (by decide), q.str R⟩
        · cases hg
      | str x => cases hd.str; cases hg; exact SkE.call_str_str pins s σ H _ us Q I rv ⟨x, rfl, q.str R⟩
      | _ => cases hg
    | list =>
      cases d with
      | lst xs =>
        obtain ⟨p, vs, rfl, hp, r⟩ := hd
        cases hg
        exact call_list_of pins s σ H _ us Q I rv ⟨p, vs, rfl, .inl (.of hp), q.fr R r⟩
      | tup xs =>
        obtain ⟨p, vs, rfl, hp, r⟩ := hd.tup
        cases hg
        exact call_list_of pins s σ H _ us Q I rv ⟨p, vs, rfl, .inr (.of (R.sub _ _ hp)), q.fr R r⟩
      | scr ns =>
        cases hg
        cases (show Rp T Hs ι v (.scr ns) from hd) with
        | scr hs => exact call_list_of pins s σ H _ us Q I rv ⟨_, _, rfl, .inl (by rw [hK]; exact Same.seq R.sub hs), q.fr R RpL.ints⟩
      | _ => cases hg
    | tuple =>
      cases d with
      | lst xs =>
        obtain ⟨p, vs, rfl, hp, r⟩ := hd
        cases hg
        exact call_tuple_of pins s σ H _ us Q I rv ⟨p, vs, rfl, .inl ⟨.of hp, q.tup R r⟩⟩
      | tup xs =>
        obtain ⟨p, vs, rfl, hp, r⟩ := hd.tup
        cases hg
        exact call_tuple_of pins s σ H _ us Q I rv ⟨p, vs, rfl, .inr ⟨.of (R.sub _ _ hp), q.sh R (.tup hp r)⟩⟩
      | _ => cases hg
    | sorted =>
      cases d with
      | lst xs =>
        obtain ⟨p, vs, rfl, hp, r⟩ := hd
        simp only [gBi, Option.map_eq_some_iff] at hg
        obtain ⟨ns, hn, rfl⟩ := hg
        rw [intsOf_eq hn] at r
        cases r.of_ints
        refine cr_sortedI pins s σ H _ us Q I rv ⟨p, ns, rfl, .of hp, fun ns' p' pm so hp' => ?_⟩
        rw [isort_uniq pm so]
        exact q.fr R RpL.ints p' hp'
      | _ => cases hg
    | max =>
      cases d with
      | lst xs =>
        obtain ⟨p, vs, rfl, hp, r⟩ := hd
        simp only [gBi] at hg
        split at hg
        · next n ns hn =>
          cases hg
          rw [intsOf_eq hn] at r
          have ev := r.of_ints
          subst ev
          refine cr_max hc pins s σ H _ us Q I rv ⟨p, n :: ns, rfl, .of hp, Nat.succ_pos _, fun m hm hle => ?_⟩
          obtain ⟨h1, h2⟩ := imax_spec ns n
          have e : m = imax n ns := Int.le_antisymm (h2 m hm) (hle _ h1)
          rw [e]
          exact q.int R
        · cases hg
      | _ => cases hg
    | min =>
      cases d with
      | lst xs =>
        obtain ⟨p, vs, rfl, hp, r⟩ := hd
        simp only [gBi] at hg
        split at hg
        · next n ns hn =>
          cases hg
          rw [intsOf_eq hn] at r
          have ev := r.of_ints
          subst ev
          refine cr_min hc pins s σ H _ us Q I rv ⟨p, n :: ns, rfl, .of hp, Nat.succ_pos _, fun m hm hle => ?_⟩
          obtain ⟨h1, h2⟩ := imin_spec ns n
          have e : m = imin n ns := Int.le_antisymm (hle _ h1) (h2 m hm)
          rw [e]
          exact q.int R
        · cases hg
      | _ => cases hg
    | sum =>
      cases d with
      | lst xs =>
        obtain ⟨p, vs, rfl, hp, r⟩ := hd
        simp only [gBi, Option.map_eq_some_iff] at hg
        obtain ⟨ns, hn, rfl⟩ := hg
        rw [intsOf_eq hn] at r
        cases r.of_ints
        exact cr_sum hc pins s σ H _ us Q I rv ⟨p, ns, rfl, .of hp, q.int R⟩
      | _ => cases hg
    | all =>
      cases d with
      | lst xs =>
        obtain ⟨p, vs, rfl, hp, r⟩ := hd
        simp only [gBi, Option.map_eq_some_iff] at hg
        obtain ⟨ns, hn, rfl⟩ := hg
        rw [bolsOf_eq hn] at r
        cases of_bols r
        exact cr_all hc pins s σ H _ us Q I rv ⟨p, ns, rfl, .of hp, q.bl R⟩
      | _ => cases hg
    | any =>
      cases d with
      | lst xs =>
        obtain ⟨p, vs, rfl, hp, r⟩ := hd
        simp only [gBi, Option.map_eq_some_iff] at hg
        obtain ⟨ns, hn, rfl⟩ := hg
        rw [bolsOf_eq hn] at r
        cases of_bols r
        exact cr_any hc pins s σ H _ us Q I rv ⟨p, ns, rfl, .of hp, q.bl R⟩
      | _ => cases hg
    | bool =>
      cases d with
      | int i => cases hd.int; cases hg; exact call_bool1 pins s σ H _ us Q I rv (.inl ⟨i, rfl, q.bl R⟩)
      | bl i => cases hd.bl; cases hg; exact call_bool1 pins s σ H _ us Q I rv (.inr ⟨i, rfl, q.bl R⟩)
      | _ => cases hg
  · cases f <;> cases d <;> cases hg
theorem boot_bi : ∀ f : Bi, bootBuiltins f.nm = some f.val
  | .len => by decide +kernel
  | .int => by decide +kernel
  | .str => by decide +kernel
  | .list => by decide +kernel
  | .tuple => by decide +kernel
  | .sorted => by decide +kernel
  | .max => by decide +kernel
  | .min => by decide +kernel
  | .sum => by decide +kernel
  | .all => by decide +kernel
  | .any => by decide +kernel
  | .bool => by decide +kernel
theorem bi_plain : ∀ f : Bi, f.nm ≠ "__name__" ∧ (f.nm == ("__debug__" : Str)) = false
  | .len => by decide +kernel
  | .int => by decide +kernel
  | .str => by decide +kernel
  | .list => by decide +kernel
  | .tuple => by decide +kernel
  | .sorted => by decide +kernel
  | .max => by decide +kernel
  | .min => by decide +kernel
  | .sum => by decide +kernel
  | .all => by decide +kernel
  | .any => by decide +kernel
  | .bool => by decide +kernel
/-- a built-in of one argument -/
theorem te_bi {p : Pos} (f : Bi) (hc : X.calm = true) (hK : X.K = T.K) (hg : Gl X f.nm) (hm : X.mg f.nm = none) (ha : PE X a (TE' T F W fa)) (hs : starEach [a] X.env = (false, eval a X.env) :: starEach [] X.env) :
    PE X (.Call (.Name f.nm p) [a] [] pos) (TE' T F W fun st => (fa st).bind fun r s => match view s r with
      | some d => ofOpt (gBi f [d]) s
      | none => .bad) := by
  have call : PE X (.Call (.Name f.nm p) [a] [] pos) (tCB (rC T (gBi f)) (tCons (TE' T F W fa) tNil)) := by
    have r := bi_g (T := T) hc hK f
    have bv := boot_bi f
    obtain ⟨n1, n2⟩ := bi_plain f
    cases f with
    | len => exact pe_callB r hg hm bv (pa_cons ha pa_nil hs) n1 n2 hs rfl
    | int => exact pe_callTy r hg hm bv (pa_cons ha pa_nil hs) n1 n2 hs rfl
    | str => exact pe_callTy r hg hm bv (pa_cons ha pa_nil hs) n1 n2 hs rfl
    | list => exact pe_callTy r hg hm bv (pa_cons ha pa_nil hs) n1 n2 hs rfl
    | tuple => exact pe_callTy r hg hm bv (pa_cons ha pa_nil hs) n1 n2 hs rfl
    | sorted => exact pe_callB r hg hm bv (pa_cons ha pa_nil hs) n1 n2 hs rfl
    | max => exact pe_callB r hg hm bv (pa_cons ha pa_nil hs) n1 n2 hs rfl
    | min => exact pe_callB r hg hm bv (pa_cons ha pa_nil hs) n1 n2 hs rfl
    | sum => exact pe_callB r hg hm bv (pa_cons ha pa_nil hs) n1 n2 hs rfl
    | all => exact pe_callB r hg hm bv (pa_cons ha pa_nil hs) n1 n2 hs rfl
    | any => exact pe_callB r hg hm bv (pa_cons ha pa_nil hs) n1 n2 hs rfl
    | bool => exact pe_callTy r hg hm bv (pa_cons ha pa_nil hs) n1 n2 hs rfl
  refine PE.imp call fun σ H Q ⟨ι, Hs, st, R, h⟩ => te_bind R h fun ι1 Hs1 H1 st1 v r R1 r1 h1 => ?_
  cases ev : view st1 r with
  | none => rw [ev] at h1; exact h1.elim
  | some d =>
    rw [ev] at h1
    cases eg : gBi f [d] with
    | none => simp only [eg] at h1; exact h1.elim
    | some z =>
      simp only [eg] at h1
      refine ⟨F, ι1, Hs1, st1.cs, [d], z, R1.s, .cons (R1.view r1 ev) .nil, eg, fun Hs' H' w E n => ?_⟩
      obtain ⟨R3, n3⟩ := R1.new E n
      exact h1 ι1 Hs' H' w (List.prefix_refl _) E.grow R3 n3
/-- list(range(n)) -/
theorem te_lrng {p1 p2 pos2 : Pos} (hc : X.calm = true) (hg : Gl X "list") (hm : X.mg "list" = none) (hg2 : Gl X "range") (hm2 : X.mg "range" = none) (ha : PE X a (TE' T F W fa)) (hs : starEach [a] X.env = (false, eval a X.env) :: starEach [] X.env) :
    PE X (.Call (.Name "list" p1) [.Call (.Name "range" p2) [a] [] pos2] [] pos) (TE' T F W fun st => (fa st).bind fun r s => match view s r with
      | some (.int n) => if 0 ≤ n ∧ n ≤ 1000 then .ok (.fr (rngD 0 n)) s else .bad
      | _ => .bad) :=
  PE.imp (pe_listRg hc hg hm (prg_1 hg2 hm2 ha hs)) fun σ H Q ⟨ι, Hs, st, R, h⟩ => te_bind R h fun ι1 Hs1 H1 st1 v r R1 r1 h1 => by
    split at h1
    · next n e =>
      cases (R1.view r1 e).int
      split at h1
      · next hz =>
        refine ⟨n, rfl, .of_le (by omega) (by omega) (by omega) (by omega), fun q hq => ?_⟩
        have rr : RpL T Hs1 ι1 (rgV 0 n) (rngD 0 n) := by
          unfold rgV rngD
          generalize List.range (n - 0).toNat = l
          induction l with
          | nil => exact .nil
          | cons k l ih => exact .cons (.int _) ih
        have n' := R1.new (R1.s.allocN hq) (z := .ref q) (r := .fr (rngD 0 n)) ⟨q, _, rfl, hq, (R1.s.fresh hq).1, upd_same, rr⟩
        exact h1 ι1 Hs1 _ _ (List.prefix_refl _) (Same.refl _) n'.1 n'.2
      · exact h1.elim
    · exact h1.elim
end
end Lit
end
section
set_option maxHeartbeats 1000000
namespace Lit
open PySem L2 PyProof.Rows
section
variable {T : Tb} {F : Fr} {W : WX} {X : Cx} {P : Pg} {a b c o : Expr} {es : List Expr} {fa fo : Stt → Out Rv} {pos apos : Pos}
def Me.nm : Me → Str
  | .split => "split" | .join => "join" | .index => "index" | .append => "append" | .popAt => "pop" | .pop => "pop" | .insert => "insert"
def Me.ty : Me → String
  | .split | .join => "str"
  | _ => "list"
def Me.id : Me → String
  | .split => "str.split" | .join => "str.join" | .index => "list.index" | .append => "list.append" | .popAt => "list.pop" | .pop => "list.pop" | .insert => "list.insert"
theorem me_pa : ∀ m : Me, PlainAttrs m.ty
  | .split | .join => F.plainAttrs_str
  | .index | .append | .popAt | .pop | .insert => F.plainAttrs_list
theorem me_slot : ∀ m : Me, Slot m.ty m.nm m.id
  | .split => F.slot_str_split
  | .join => F.slot_str_join
  | .index => F.slot_list_index
  | .append => F.slot_list_append
  | .popAt => F.slot_list_pop
  | .pop => F.slot_list_pop
  | .insert => F.slot_list_insert
theorem me_type : ∀ m : Me, typeOf (.builtin m.id) = pure (.type "method_descriptor")
  | .split => F.type_str_split
  | .join => F.type_str_join
  | .index => F.type_list_index
  | .append => F.type_list_append
  | .popAt => F.type_list_pop
  | .pop => F.type_list_pop
  | .insert => F.type_list_insert
def rM (T : Tb) (g : D → List D → Option Rv) : V → List V → Hp → VK → Prop := fun x xs H Q => ∃ (F : Fr) (ι : List Addr) (Hs : Hp) (cs : List Cell) (d : D) (ds : List D) (z : Rv), SR T F ι Hs H cs ∧ RpT T Hs H ι x d ∧ RpTs T Hs H ι xs ds ∧ g d ds = some z ∧ Fol T ι Hs H cs z Q
theorem findIdx_spec {α : Type} {p : α → Bool} : ∀ {l : List α} {j : Nat}, l.findIdx? p = some j → (∃ x, l[j]? = some x ∧ p x = true) ∧ ∀ (m : Nat) (y : α), m < j → l[m]? = some y → p y = false
  | [], j, h => by simp at h
  | x :: r, j, h => by
    rw [List.findIdx?_cons] at h
    split at h
    · next hx => cases h; exact ⟨⟨x, rfl, hx⟩, fun m y hm => absurd hm (Nat.not_lt_zero _)⟩
    · next hx =>
      rw [Option.map_eq_some_iff] at h
      obtain ⟨k, hk, rfl⟩ := h
      obtain ⟨⟨y, h1, h2⟩, h3⟩ := findIdx_spec hk
      refine ⟨⟨y, by simpa using h1, h2⟩, fun m z hm hz => ?_⟩
      cases m with
      | zero =>
        simp at hz
        subst hz
        simpa using hx
      | succ m => exact h3 m z (by omega) (by simpa using hz)
theorem me_g (hK : X.K = T.K) : ∀ m : Me, MtR X m.id (rM T (gMe m)) := by
  intro m pins s σ H x xs v us Q I rx rv h
  obtain ⟨F, ι, Hs, cs, d, ds, z, R, hd, hds, hg, q⟩ := h
  cases m with
  | split =>
    cases d with
    | str x' =>
      cases hd.str
      rcases ds with _ | ⟨e, _ | ⟨e2, r⟩⟩
      · cases hg
      · obtain ⟨w, rfl, he⟩ := one_inv hds
        cases e with
        | str y =>
          cases he.str
          simp only [gMe] at hg
          split at hg
          · next hz =>
            cases hg
            exact mt_split pins s σ H _ _ v us Q I rx rv ⟨x', y, rfl, rfl, hz.1, by rw [line_eq]; exact hz.2, q.fr R RpL.strs⟩
          · cases hg
        | _ => cases hg
      · cases e <;> cases hg
    | _ => cases hg
  | join =>
    cases d with
    | str x' =>
      cases hd.str
      rcases ds with _ | ⟨e, _ | ⟨e2, r⟩⟩
      · cases hg
      · obtain ⟨w, rfl, he⟩ := one_inv hds
        cases e with
        | lst ys =>
          obtain ⟨p, vs, rfl, hp, r⟩ := he
          simp only [gMe] at hg
          split at hg
          · next zs hz0 =>
            split at hg
            · next hz =>
              cases hg
              rw [strsOf_eq hz0] at r
              cases r.of_strs
              exact mt_join pins s σ H _ _ v us Q I rx rv ⟨x', p, zs, rfl, rfl, .inl (.of hp), hz, q.str R⟩
            · cases hg
          · cases hg
        | tup ys =>
          obtain ⟨p, vs, rfl, hp, r⟩ := he.tup
          simp only [gMe] at hg
          split at hg
          · next zs hz0 =>
            split at hg
            · next hz =>
              cases hg
              rw [strsOf_eq hz0] at r
              cases r.of_strs
              exact mt_join pins s σ H _ _ v us Q I rx rv ⟨x', p, zs, rfl, rfl, .inr (.of (R.sub _ _ hp)), hz, q.str R⟩
            · cases hg
          · cases hg
        | _ => cases hg
      · cases e <;> cases hg
    | _ => cases hg
  | index =>
    cases d with
    | lst xs' =>
      obtain ⟨p, vs, rfl, hp, r⟩ := hd
      rcases ds with _ | ⟨e, _ | ⟨e2, r2⟩⟩
      · cases hg
      · obtain ⟨w, rfl, he⟩ := one_inv hds
        simp only [gMe] at hg
        split at hg
        · next hf =>
          rw [Bool.and_eq_true] at hf
          rw [Option.map_eq_some_iff] at hg
          obtain ⟨j, hj, rfl⟩ := hg
          obtain ⟨⟨y, h1, h2⟩, h3⟩ := findIdx_spec hj
          have he' := he.flat hf.1
          obtain ⟨u, hu, ru⟩ := r.get h1
          have fy : isFlat y = true := List.all_eq_true.mp hf.2 y (List.mem_of_getElem? h1)
          refine mt_index pins s σ H _ _ v us Q I rx rv ⟨p, vs, w, j, u, rfl, rfl, .of hp, flat_of he' hf.1, flats_of r hf.2, hu, by rw [eqFl_of ru he' fy hf.1]; exact h2, fun m z' hm hz => ?_, q.int R⟩
          have hm' : m < xs'.length := by rw [← r.length]; exact (List.getElem?_eq_some_iff.mp hz).1
          obtain ⟨u', hu', ru'⟩ := r.get (List.getElem?_eq_getElem hm')
          rw [hz] at hu'
          cases hu'
          have fy' : isFlat xs'[m] = true := List.all_eq_true.mp hf.2 _ (List.getElem_mem hm')
          rw [eqFl_of ru' he' fy' hf.1]
          exact h3 m _ hm (List.getElem?_eq_getElem hm')
        · cases hg
      · cases hg
    | _ => cases hg
  | _ => cases hg
/-- the receiver's type -/
theorem tyM_v (hK : X.K = T.K) {Hs H : Hp} {ι : List Addr} {v : V} {d : D} {m : Me} (h : RpT T Hs H ι v d) (ht : tyM m d = true) : tyV X.K m.ty v H := by
  cases m <;> cases d <;> first | (cases ht; done) | (cases h.str; rfl) | (obtain ⟨p, vs, rfl, hp, r⟩ := h; exact Or.inl ⟨rfl, _, .of hp⟩)
theorem any_some {α : Type} {o : Option α} {p : α → Bool} (h : (o.any p) = true) : ∃ x, o = some x ∧ p x = true := by
  cases o with
  | none => cases h
  | some x => exact ⟨x, rfl, h⟩
/-- all that a method call asks of its arguments' form -/
structure ArgF (X : Cx) (cpos : Pos) (a : Expr) (es : List Expr) : Prop where
  st : starEach (a :: es) X.env = (false, eval a X.env) :: starEach es X.env
  few : ((backTo cpos (starEach (a :: es) X.env)).all (fun x => !x.1) && (backToKw cpos (keywordEach [] X.env)).all (fun x => x.1.isSome) && decide ((a :: es).length + ([] : List Keyword).length + (if ([] : List Keyword).isEmpty then 0 else 1) < 30)) = true
  pl : (backTo cpos (starEach es X.env)).any (·.1) = false
def meF (m : Me) (fo : Stt → Out Rv) (fs : Stt → Out (List Rv)) (st : Stt) : Out Rv := (fo st).bind fun r s1 => if ((view s1 (setl r)).any (tyM m)) = true then (fs s1).bind fun rs s2 => match view s2 (setl r), views s2 rs with
    | some d, some ds => ofOpt (gMe m d ds) s2
    | _, _ => .bad
    else .bad
theorem te_me (m : Me) {fs : Stt → Out (List Rv)} (hK : X.K = T.K) (ho : PE X o (TE' T F W fo)) (ha : PA X (a :: es) (TL' T F W fs)) (hb : attributeBase o m.nm X.env (eval o X.env) = eval o X.env) (hf : ArgF X pos a es) (hl : (apos.endLine == pos.line) = true) :
    PE X (.Call (.Attribute o m.nm apos) (a :: es) [] pos) (TE' T F W (meF m fo fs)) :=
  PE.imp (pe_bm (me_pa m) (me_slot m) (me_type m) (me_g (T := T) hK m) ho ha hb hf.few hl hf.st hf.pl) fun σ H Q ⟨ι, Hs, st, R, h⟩ => te_bindS R h fun ι1 Hs1 H1 st1 v r R1 r1 h1 => by
    split at h1
    · next ht =>
      obtain ⟨d, e, td⟩ := any_some ht
      refine ⟨tyM_v hK (R1.view r1 e) td, ?_⟩
      refine Post.first (rep := rL T) R1 h1 fun ι2 Hs2 H2 st2 vs rs p2 e2 R2 r2 h2 => ?_
      have q1 : RpR T F ι2 Hs2 H2 σ st2 v (setl r) := RpR.stay r1 p2 e2
      cases ev : view st2 (setl r) with
      | none => rw [ev] at h2; exact h2.elim
      | some d' =>
        cases ew : views st2 rs with
        | none => rw [ev, ew] at h2; exact h2.elim
        | some ds =>
          rw [ev, ew] at h2
          simp only at h2
          cases eg : gMe m d' ds with
          | none => simp only [eg] at h2; exact h2.elim
          | some z =>
            simp only [eg] at h2
            refine ⟨F, ι2, Hs2, st2.cs, d', ds, z, R2.s, R2.view q1 ev, R2.viewS r2 ew, eg, fun Hs' H' w E n => ?_⟩
            obtain ⟨R3, n3⟩ := R2.new E n
            exact h2 ι2 Hs' H' w (List.prefix_refl _) E.grow R3 n3
    · exact h1.elim
theorem nodup_get {l : List Addr} (hN : l.Nodup) {i j : Nat} {x : Addr} (a : l[i]? = some x) (b : l[j]? = some x) : i = j := by
  obtain ⟨h1, e1⟩ := List.getElem?_eq_some_iff.mp a
  obtain ⟨h2, e2⟩ := List.getElem?_eq_some_iff.mp b
  exact (List.getElem_inj hN).mp (e1.trans e2.symm)
theorem ER.rest {ι : List Addr} {Hs H : Hp} {σ : L2.St} {env : List Sl} (E : ER T F ι Hs H σ env) {p : Addr} {o : HO} (hne : ∀ (i : Nat) (ys : List D), env[i]? = some (.mu ys) → σ[i]? ≠ some (some (.ref p))) : ER T F ι Hs (upd H p o) σ env := by
  refine ⟨E.len, fun i s h => ?_, E.dj, E.kp⟩
  have z := E.at_ i s h
  cases s with
  | no => trivial
  | sh d => exact z
  | mu xs =>
    obtain ⟨q, vs, e, h1, h2, h3, h4, r⟩ := z
    refine ⟨q, vs, e, h1, h2, h3, ?_, r⟩
    rw [upd_ne (fun z : q = p => hne i xs h (z ▸ e))]
    exact h4
theorem Rel.loc {ι : List Addr} {Hs H : Hp} {σ : L2.St} {st : Stt} (Q : Rel T F ι Hs H σ st) {v : V} {r : Rv} {l : Loc} {xs : List D} (h : RpR T F ι Hs H σ st v (setl r)) (e : locR (setl r) st = some (l, xs)) :
    ∃ p vs, v = .ref p ∧ H p = some (.lst vs) ∧ RpL T Hs ι vs xs ∧ ∀ vs' ys, RpL T Hs ι vs' ys → Rel T F ι Hs (upd H p (.lst vs')) σ (setLoc l ys st) := by
  have cell : ∀ d, Rp T Hs ι v d → locD st.cs d = some (l, xs) → ∃ p vs, v = .ref p ∧ H p = some (.lst vs) ∧ RpL T Hs ι vs xs ∧ ∀ vs' ys, RpL T Hs ι vs' ys → Rel T F ι Hs (upd H p (.lst vs')) σ (setLoc l ys st) := by
    intro d hd e
    cases d with
    | own n =>
      cases hd with
      | own hi =>
        rename_i a
        simp only [locD] at e
        split at e
        · next ys hc =>
          cases e
          obtain ⟨vs, e1, rr⟩ := Q.s.cell n _ _ hi hc
          refine ⟨a, vs, rfl, e1, rr, fun vs' ys hr => ?_⟩
          have hm : a ∈ ι := List.mem_of_getElem? hi
          have hno := Q.s.io a hm
          refine ⟨⟨fun b u q => ?_, Q.s.pre, fun b u q hb => ?_, Q.s.f2, Q.s.grow, Q.s.inj, Q.s.io, Q.s.inew, by rw [Q.s.len]; exact (List.length_set ..).symm, fun m b c m1 m2 => ?_, fun q hq => ?_⟩, Q.e.rest fun i zs hz hs => ?_⟩
          · rw [upd_ne (fun z : b = a => by rw [z, hno] at q; cases q)]; exact Q.s.sub b u q
          · rw [upd_ne (fun z : b = a => ?_)]
            · exact Q.s.f1 b u q hb
            · subst z
              rcases Q.s.inew b hm with z | z
              · exact hb z
              · rw [q] at z; cases z
          · by_cases hmn : m = n
            · subst hmn
              rw [hi] at m1
              cases m1
              have hlt : m < st.cs.length := (List.getElem?_eq_some_iff.mp hc).1
              have e2' : (st.cs.set m (.lst ys))[m]? = some c := m2
              rw [List.getElem?_set_self hlt] at e2'
              cases e2'
              exact ⟨vs', upd_same, hr⟩
            · have e2' : (st.cs.set n (.lst ys))[m]? = some c := m2
              rw [List.getElem?_set_ne (Ne.symm hmn)] at e2'
              have hba : b ≠ a := fun z => by
                subst z
                exact hmn (nodup_get Q.s.inj m1 hi)
              exact (Q.s.cell m b c m1 e2').up (Same.refl _) (List.prefix_refl _) (upd_ne hba)
          · obtain ⟨k1, k2, k3, k4⟩ := Q.s.kept q hq
            exact ⟨by rw [upd_ne (fun z : q.1 = a => k4 (z ▸ hm))]; exact k1, k2, k3, k4⟩
          · obtain ⟨q, ws, a1, b1, b2, b3, b4, _⟩ := Q.e.at_ i _ hz
            rw [hs] at a1
            cases a1
            exact b3 hm
        · cases e
    | _ => cases e
  cases r with
  | sh d => exact cell d h e
  | fr ys => exact cell _ h e
  | rf i =>
    have h : σ[i]? = some (some v) := h
    simp only [setl, locR] at e
    split at e
    · next ys hi =>
      cases e
      have z := Q.e.at_ i _ hi
      obtain ⟨p, vs, e1, h1, h2, h3, h4, rr⟩ := z
      rw [h] at e1
      cases e1
      have hlt : i < st.env.length := (List.getElem?_eq_some_iff.mp hi).1
      refine ⟨p, vs, rfl, h4, rr, fun vs' ys hr => ⟨⟨fun b u q => ?_, Q.s.pre, fun b u q hb => ?_, Q.s.f2, Q.s.grow, Q.s.inj, Q.s.io, Q.s.inew, Q.s.len, fun m b c e1 e2 => ?_, fun q hq => ?_⟩, ⟨by rw [Q.e.len]; exact (List.length_set ..).symm, fun j s hj => ?_, fun j k zs ws q a1 a2 b1 b2 => ?_, fun q hq j zs a1 => ?_⟩⟩⟩
      · rw [upd_ne (fun z : b = p => by rw [z, h1] at q; cases q)]; exact Q.s.sub b u q
      · rw [upd_ne (fun z : b = p => by rw [z, h2] at q; cases q)]; exact Q.s.f1 b u q hb
      · have hbp : b ≠ p := fun z => h3 (z ▸ List.mem_of_getElem? e1)
        exact (Q.s.cell m b c e1 e2).up (Same.refl _) (List.prefix_refl _) (upd_ne hbp)
      · obtain ⟨k1, k2, k3, k4⟩ := Q.s.kept q hq
        exact ⟨by rw [upd_ne (fun z : q.1 = p => Q.e.kp q hq i _ hi (by rw [z]; exact h))]; exact k1, k2, k3, k4⟩
      · have hj : (st.env.set i (.mu ys))[j]? = some s := hj
        by_cases eij : i = j
        · subst eij
          rw [List.getElem?_set_self hlt] at hj
          cases hj
          exact ⟨p, vs', h, h1, h2, h3, upd_same, hr⟩
        · rw [List.getElem?_set_ne eij] at hj
          have y := Q.e.at_ j s hj
          cases s with
          | no => trivial
          | sh d => exact y
          | mu zs =>
            obtain ⟨q, ws, a1, b1, b2, b3, b4, r'⟩ := y
            refine ⟨q, ws, a1, b1, b2, b3, ?_, r'⟩
            rw [upd_ne (fun z : q = p => eij (Q.e.dj i j _ zs p hi hj h (z ▸ a1)))]
            exact b4
      · have back : ∀ {j : Nat} {zs : List D}, (st.env.set i (.mu ys))[j]? = some (.mu zs) → ∃ zs', st.env[j]? = some (.mu zs') := fun {j zs} hj => by
          by_cases eij : i = j
          · subst eij; exact ⟨_, hi⟩
          · rw [List.getElem?_set_ne eij] at hj; exact ⟨_, hj⟩
        obtain ⟨_, a1'⟩ := back a1
        obtain ⟨_, a2'⟩ := back a2
        exact Q.e.dj j k _ _ q a1' a2' b1 b2
      · by_cases eij : i = j
        · subst eij; exact Q.e.kp q hq i _ hi
        · have a1 : (st.env.set i (.mu ys))[j]? = some (.mu zs) := a1
          rw [List.getElem?_set_ne eij] at a1
          exact Q.e.kp q hq j zs a1
    · next d hi =>
      have z := Q.e.at_ i _ hi
      obtain ⟨w, e1, rr⟩ := z
      rw [h] at e1
      cases e1
      exact cell d rr e
    · cases e
end
end Lit
end
section
set_option maxHeartbeats 1000000
namespace Lit
open PySem L2 PyProof.Rows
/-- a def's promise by its outcome -/
def spF (T : Tb) (sg : Sem') : Sp := fun vs H Q E => ∃ (ι : List Addr) (Hs : Hp) (cs : List Cell) (ds : List D), SR T (here H ι Hs) ι Hs H cs ∧ RpL T Hs ι vs ds ∧ match sg ds cs with
  | some (.ret d, cs') => ∀ ι' Hs' H' v, SR T (here H ι Hs) ι' Hs' H' cs' → Rp T Hs' ι' v d → Q v H'
  | some (.exc x, cs') => ∀ ι' Hs' H' cls d, SR T (here H ι Hs) ι' Hs' H' cs' → ExcR T Hs' ι' cls d x → E cls d H'
  | none => False
/-- how a def's errors leave it: c says that they have no context -/
def cxB (c : Bool) (prog : Program) (w : World) : CXT := if c = true then L2N.CX prog w else L2.CX prog w
def TkB (c : Bool) (X : Cx) (W : WX) : Prop := if c = true then L2N.Takes X W else L2.Takes X W
theorem cx_up {prog : Program} {w : World} {outer : List Env} {H : Hp} {s : Shared} {E : XK} {u : Value} {s' : Shared} (h : L2N.CX prog w outer H s E u s') : L2.CX prog w outer H s E u s' := by
  obtain ⟨a, B, H', cls, d, e, fl, r⟩ := h
  exact ⟨a, B, H', cls, d, e, L2H.flyingZ_imp (fun o z => z.zc) fl, r⟩
theorem passB {c cl : Bool} {X : Cx} {W : WX} (tk : TkB c X W) (h : c = true → cl = true) (σ : L2.St) : PassesAt (cxB cl X.prog X.w) X σ (WE W σ) := by
  cases c with
  | true =>
    rw [h rfl]
    exact L2N.passAt (show L2N.Takes X W from tk) σ
  | false =>
    have tk : L2.Takes X W := tk
    cases cl with
    | false => exact L2.passAt tk σ
    | true => exact fun pins H s e s' I c => L2.passAt tk σ pins H s e s' I (cx_up c)
/-- a def that keeps its promise -/
structure FnA (T : Tb) (P : Pg) (prog : Program) (w : World) (mg : Str → Option Value) (base : Heap) (k f : Nat) : Prop where
  kp : PySem.W.keepIn T.K (.ref (T.fad f)) = true
  ok : ∃ (fd : FuncData) (ps : List Str) (dvs : List V) (dus : List Value), Binds T.K fd ps dus ∧ Vals dvs dus ∧ (∀ Hs ι, RpL T Hs ι dvs (P.dfs f)) ∧ FnOk prog w T.K mg base (cxB (P.cln f) prog w) k (T.fad f) fd ps (spF T (P.sem f))
/-- what the written part says of classes and names -/
structure SF (T : Tb) (P : Pg) (mg : Str → Option Value) : Prop where
  fld : ∀ c, P.fld c = T.cfl c
  glb : ∀ x d, P.glb x = some d → ∃ v u, mg x = some u ∧ RelV v u ∧ ∀ Hs ι, Rp T Hs ι v d
  gfn : ∀ f, P.isg f = true → mg (P.fnm f) = some (.ref (T.fad f))
  fisk : ∀ c f, (P.fld c).contains f = true → P.isk c = true
  cls : ∀ c, P.isk c = true → Cls T.K (T.cad c)
  gcl : ∀ c, P.isk c = true → mg (P.cnm c) = some (.ref (T.cad c))
  nat_ : ∀ c f, P.isk c = true → f ∈ P.fld c → NoAttr T.K (T.cad c) f
  mth : ∀ c m f, P.mth c m = some f → P.isk c = true ∧ Meth T.K (T.cad c) m (T.fad f) ∧ m ∉ P.fld c
  mdn : ∀ c m f, P.mth c m = some f → f < P.dn
  mcl : ∀ c m f, P.mcl m = true → P.mth c m = some f → P.cln f = true
  mki : ∀ c f, P.mki c = some f → P.isk c = true ∧ Mk T.K (T.cad c) (T.fad f)
  con : ∀ c x d, P.con c x = some d → P.isk c = true ∧ ∃ v u, Con T.K (T.cad c) x v u ∧ ∀ Hs ι, Rp T Hs ι v d
  typ : ∀ c, P.isk c = true → PySem.W.findIn T.K (.ref (T.cad c)) "__class__" = some (some (.builtin "object.__class__")) ∧ PySem.W.mroIn T.K (T.cad c) (.type "object") = some true
  gsd : PySem.W.specialIn T.K (.builtin "object.__class__") "__get__" = some (some (.builtin "getset_descriptor.__get__")) ∧ PySem.W.takesIn T.K (.builtin "object.__class__") = some true
  kic : ∀ c d, P.isk c = true → P.isk d = true → PySem.W.kitOne T.K (.ref (T.cad c)) (.ref (T.cad d)) = some (P.isc c d)
  kib : ∀ c n, P.isk c = true → n ∈ (["int", "bool", "str", "tuple", "list"] : List String) → PySem.W.kitOne T.K (.ref (T.cad c)) (.type n) = some false
section
variable {T : Tb} {F : Fr} {W : WX} {X : Cx} {P : Pg} {a b c o : Expr} {es : List Expr} {fa fo : Stt → Out Rv} {pos apos : Pos}
theorem map_get {α β : Type} {f : α → β} {l : List α} {r : List β} (h : l.map f = r) {j : Nat} {x : α} (e : l[j]? = some x) : r[j]? = some (f x) := by
  rw [← h, List.getElem?_map, e]; rfl
theorem idxOf_get {f : Str} : ∀ {l : List Str} {j : Nat}, l.idxOf? f = some j → l[j]? = some f := by
  intro l j h
  rw [List.idxOf?] at h
  obtain ⟨⟨x, h1, h2⟩, _⟩ := findIdx_spec h
  have : x = f := by simpa using h2
  rw [h1, this]
theorem fdp_lookup {Hs : Hp} {ι : List Addr} {f : Str} : ∀ {gs : List (Str × V)} {fs : List (Str × D)}, FdP T Hs ι gs fs → ∀ {d : D}, fs.lookup f = some d → ∃ v, gs.lookup f = some v ∧ Rp T Hs ι v d
  | _, _, .nil, d, h => by cases h
  | (g, v) :: gs, (g', e) :: fs, .cons ⟨h1, h2⟩ r, d, h => by
    cases (show g = g' from h1)
    simp only [List.lookup] at h ⊢
    split at h
    · next hq => cases h; exact ⟨v, rfl, h2⟩
    · next hq => exact fdp_lookup r h
def fldF (P : Pg) (f : Str) (fo : Stt → Out Rv) (st : Stt) : Out Rv := (fo st).bind fun r s => match view s r with
    | some (.ins c ds) => match (P.fld c).idxOf? f with
      | some j => ofOpt ((ds[j]?).map .sh) s
      | none => .bad
    | some (.own n) => match s.cs[n]? with
      | some (.ins c fs) => if (P.fld c).contains f = true then ofOpt ((fs.lookup f).map .sh) s else .bad
      | _ => .bad
    | _ => .bad
/-- every class with fields is known -/
theorem te_fld {f : Str} (S : SF T P X.mg) (hK : X.K = T.K) (ho : PE X o (TE' T F W fo)) (hb : attributeBase o f X.env (eval o X.env) = eval o X.env) :
    PE X (.Attribute o f pos) (TE' T F W (fldF P f fo)) :=
  PE.imp (pe_fld ho hb) fun σ H Q ⟨ι, Hs, st, R, h⟩ => te_bind R h fun ι1 Hs1 H1 st1 v r R1 r1 h1 => by
    split at h1
    · next c ds e =>
      split at h1
      · next j hj =>
        have hm := idxOf_get hj
        have hmem : f ∈ P.fld c := List.mem_of_getElem? hm
        have hkc := S.fisk c f (by simpa using hmem)
        cases hd : ds[j]? with
        | none => simp only [hd] at h1; exact h1.elim
        | some d =>
          simp only [hd] at h1
          cases (show Rp T Hs1 ι1 v (.ins c ds) from R1.view r1 e) with
          | ins hs fr rl =>
            obtain ⟨w, hw, rw_⟩ := rl.get hd
            have hl := map_get fr.1 (by rw [← S.fld c]; exact hm)
            rw [List.getElem?_map, hw] at hl
            refine ⟨_, _, _, _, w, rfl, R1.s.sub _ _ hs, by rw [hK]; exact S.cls c hkc, by rw [hK]; exact S.nat_ c f hkc hmem, (Option.some.inj hl).symm, h1.done R1 rw_⟩
      · exact h1.elim
    · next n e =>
      split at h1
      · next c fs hc =>
        split at h1
        · next hcon =>
          have hkc := S.fisk c f hcon
          cases hd : fs.lookup f with
          | none => simp only [hd] at h1; exact h1.elim
          | some d =>
            simp only [hd] at h1
            cases (show Rp T Hs1 ι1 v (.own n) from R1.view r1 e) with
            | own hi =>
              obtain ⟨dx, gs, hg, fp⟩ := R1.s.cell n _ _ hi hc
              obtain ⟨w, hw, rw_⟩ := fdp_lookup fp hd
              exact ⟨_, _, _, _, w, rfl, hg, by rw [hK]; exact S.cls c hkc, by rw [hK]; exact S.nat_ c f hkc (by simpa using hcon), hw, h1.done R1 rw_⟩
        · exact h1.elim
      · exact h1.elim
    · exact h1.elim
def conF (P : Pg) (f : Str) (fo : Stt → Out Rv) (st : Stt) : Out Rv := (fo st).bind fun r s => match view s r with
    | some (.ins c _) => match P.con c f with
      | some d => if (P.fld c).contains f = false then .ok (.sh d) s else .bad
      | none => .bad
    | _ => .bad
theorem te_con {f : Str} (S : SF T P X.mg) (hK : X.K = T.K) (ho : PE X o (TE' T F W fo)) (hb : attributeBase o f X.env (eval o X.env) = eval o X.env) :
    PE X (.Attribute o f pos) (TE' T F W (conF P f fo)) :=
  PE.imp (pe_con ho hb) fun σ H Q ⟨ι, Hs, st, R, h⟩ => te_bind R h fun ι1 Hs1 H1 st1 v r R1 r1 h1 => by
    split at h1
    · next c ds e =>
      split at h1
      · next d hd =>
        split at h1
        · next hn =>
          obtain ⟨hkc, w, u, hc, hw⟩ := S.con c f d hd
          cases (show Rp T Hs1 ι1 v (.ins c ds) from R1.view r1 e) with
          | ins hs fr rl =>
            have hno : f ∉ T.cfl c := by
              rw [← S.fld c]
              intro m
              have : (P.fld c).contains f = true := by simpa using m
              rw [this] at hn
              cases hn
            exact ⟨_, _, _, _, w, u, rfl, R1.s.sub _ _ hs, by rw [hK]; exact S.cls c hkc, by rw [hK]; exact hc, fr.2 f hno, h1.done R1 (hw _ _)⟩
        · exact h1.elim
      · exact h1.elim
    · exact h1.elim
def Ty.nm (P : Pg) : Ty → Str
  | .int => "int" | .bool => "bool" | .str => "str" | .tuple => "tuple" | .list => "list" | .cls c => P.cnm c
def Ty.v (T : Tb) : Ty → V
  | .int => .ty "int" | .bool => .ty "bool" | .str => .ty "str" | .tuple => .ty "tuple" | .list => .ty "list" | .cls c => .ref (T.cad c)
def Ty.u (T : Tb) : Ty → Value
  | .int => .type "int" | .bool => .type "bool" | .str => .type "str" | .tuple => .type "tuple" | .list => .type "list" | .cls c => .ref (T.cad c)
def Ty.ok (P : Pg) : Ty → Bool
  | .cls c => P.isk c
  | _ => true
theorem ty_name (S : SF T P X.mg) {t : Ty} (ht : t.ok P = true) (hg : Gl X (t.nm P)) (hm : (∀ c, t ≠ .cls c) → X.mg (t.nm P) = none) (hd : ((t.nm P) == ("__debug__" : Str)) = false) {p : Pos} : PE X (.Name (t.nm P) p) (tC (t.v T)) := by
  cases t with
  | cls c => exact pe_glob hg (S.gcl c ht) rfl hd
  | int => exact pe_bltn hg (hm nofun) (show bootBuiltins "int" = some (.type "int") by decide +kernel) rfl (by show ("int" : Str) ≠ "__name__"; decide) hd
  | bool => exact pe_bltn hg (hm nofun) (show bootBuiltins "bool" = some (.type "bool") by decide +kernel) rfl (by show ("bool" : Str) ≠ "__name__"; decide) hd
  | str => exact pe_bltn hg (hm nofun) (show bootBuiltins "str" = some (.type "str") by decide +kernel) rfl (by show ("str" : Str) ≠ "__name__"; decide) hd
  | tuple => exact pe_bltn hg (hm nofun) (show bootBuiltins "tuple" = some (.type "tuple") by decide +kernel) rfl (by show ("tuple" : Str) ≠ "__name__"; decide) hd
  | list => exact pe_bltn hg (hm nofun) (show bootBuiltins "list" = some (.type "list") by decide +kernel) rfl (by show ("list" : Str) ≠ "__name__"; decide) hd
theorem ty_cls {t : Ty} : ClsV (t.v T) (t.u T) := by
  cases t <;> first | exact .ty _ | exact .own _
theorem tyx_of (S : SF T P X.mg) {Hs H : Hp} {ι : List Addr} {v : V} {d : D} {t : Ty} {b : Bool} (e : Same Hs H) (h : RpT T Hs H ι v d) (ht : t.ok P = true) (hg : gIsi P d t = some b) :
    ∃ u, TyX T.K H v u ∧ PySem.W.kitOne T.K u (t.u T) = some b := by
  cases d with
  | non => cases h.non; exact ⟨_, .base .non, by cases t <;> cases hg <;> exact kit_ty (by decide +kernel)⟩
  | bl x => cases h.bl; exact ⟨_, .base (.bl x), by cases t <;> cases hg <;> exact kit_ty (by decide +kernel)⟩
  | int x => cases h.int; exact ⟨_, .base (.int x), by cases t <;> cases hg <;> exact kit_ty (by decide +kernel)⟩
  | str x => cases h.str; exact ⟨_, .base (.str x), by cases t <;> cases hg <;> exact kit_ty (by decide +kernel)⟩
  | lst xs =>
    obtain ⟨p, vs, rfl, hp, r⟩ := h
    exact ⟨_, .base (.lst hp), by cases t <;> cases hg <;> exact kit_ty (by decide +kernel)⟩
  | tup xs =>
    obtain ⟨p, vs, rfl, hp, r⟩ := h.tup
    exact ⟨_, .base (.tup (e _ _ hp)), by cases t <;> cases hg <;> exact kit_ty (by decide +kernel)⟩
  | ins c ds =>
    have hkc : P.isk c = true := by
      cases hq : P.isk c with
      | true => rfl
      | false => cases t <;> simp [gIsi, hq] at hg
    cases (show Rp T Hs ι v (.ins c ds) from h) with
    | ins hs fr rl =>
      obtain ⟨t1, t2⟩ := S.typ c hkc
      refine ⟨_, .base (.ins (e _ _ hs) (S.cls c hkc) t1 S.gsd.1 S.gsd.2 t2), ?_⟩
      cases t <;> simp only [gIsi, hkc, if_true, Option.some.injEq] at hg
      case cls d => rw [← hg]; exact S.kic c d hkc ht
      all_goals subst hg
      case int => exact S.kib c "int" hkc (by decide)
      case bool => exact S.kib c "bool" hkc (by decide)
      case str => exact S.kib c "str" hkc (by decide)
      case tuple => exact S.kib c "tuple" hkc (by decide)
      case list => exact S.kib c "list" hkc (by decide)
  | own n => cases t <;> cases hg
  | scr ns => cases t <;> cases hg
end
end Lit
end
section
set_option maxHeartbeats 1000000
namespace Lit
open PySem L2 PyProof.Rows
section
variable {T : Tb} {F : Fr} {W : WX} {X : Cx} {P : Pg} {a b c o : Expr} {es : List Expr} {fa fo : Stt → Out Rv} {pos apos p p2 : Pos} {k : Nat}
def isiF (P : Pg) (t : Ty) (fa : Stt → Out Rv) (st : Stt) : Out Rv := (fa st).bind fun r s => match view s r with
    | some d => ofOpt ((gIsi P d t).map fun b => .sh (.bl b)) s
    | none => .bad
theorem te_isi (S : SF T P X.mg) (hK : X.K = T.K) {t : Ty} (ht : t.ok P = true) (hg0 : Gl X "isinstance") (hm0 : X.mg "isinstance" = none) (hg : Gl X (t.nm P)) (hm : (∀ c, t ≠ .cls c) → X.mg (t.nm P) = none) (hd : ((t.nm P) == ("__debug__" : Str)) = false)
    (ha : PE X a (TE' T F W fa)) (hs : starEach [a, .Name (t.nm P) p2] X.env = (false, eval a X.env) :: starEach [.Name (t.nm P) p2] X.env) :
    PE X (.Call (.Name "isinstance" p) [a, .Name (t.nm P) p2] [] pos) (TE' T F W (isiF P t fa)) :=
  PE.imp (pe_callB call_isi hg0 hm0 (by decide +kernel) (pa_cons ha (pa_cons (ty_name S ht hg hm hd) pa_nil rfl) hs) (by decide) (by decide) hs rfl) fun σ H Q ⟨ι, Hs, st, R, h⟩ => te_bind R h fun ι1 Hs1 H1 st1 v r R1 r1 h1 => by
    cases ev : view st1 r with
    | none => rw [ev] at h1; exact h1.elim
    | some d =>
      rw [ev] at h1
      cases eg : gIsi P d t with
      | none => simp only [eg] at h1; exact h1.elim
      | some b =>
        simp only [eg] at h1
        obtain ⟨u, hu, hk⟩ := tyx_of S R1.s.sub (R1.view r1 ev) ht eg
        exact ⟨v, t.v T, u, t.u T, b, rfl, ty_cls, by rw [hK]; exact hu, by rw [hK]; exact hk, h1.done R1 (.bl b)⟩
/-- a call's promise from what the caller wants -/
theorem call_core {σ : L2.St} {ι : List Addr} {Hs H : Hp} {st : Stt} {f : Nat} {vs dvs : List V} {ds : List D} {Q : VK} (R : Rel T F ι Hs H σ st) (r : RpL T Hs ι vs ds) (rd : ∀ Hs ι, RpL T Hs ι dvs (P.dfs f))
    (h : Post T F W σ (rE T F σ) ι Hs (callF P f ds st) Q) : spF T (P.sem f) (vs ++ dvs) H Q (WE W σ) := by
  refine ⟨ι, Hs, st.cs, ds ++ P.dfs f, R.s.start, r.app (rd _ _), ?_⟩
  unfold callF at h
  cases e : P.sem f (ds ++ P.dfs f) st.cs with
  | none => rw [e] at h; exact h.elim
  | some p =>
    obtain ⟨res, cs⟩ := p
    rw [e] at h
    cases res with
    | ret d => exact fun ι' Hs' H' v E rv => h ι' Hs' H' v E.pre E.grow (R.step E) rv
    | exc x => exact fun ι' Hs' H' cls d E rx => h ι' Hs' H' cls d E.pre E.grow (R.step E) rx
theorem te_call {f : Nat} {g : Stt → Out (List D)} (S : SF T P X.mg) (hK : X.K = T.K) (G : FnA T P X.prog X.w X.mg X.base k f) (hr : Room k X.A) (tk : ∀ σ, PassesAt (cxB (P.cln f) X.prog X.w) X σ (WE W σ)) (his : P.isg f = true) (hg : Gl X (P.fnm f)) (hd : ((P.fnm f) == ("__debug__" : Str)) = false)
    (ha : PA X (a :: es) (TA' T F W g)) (he : starEach (a :: es) X.env = (false, eval a X.env) :: starEach es X.env) (hpl : (backTo pos (starEach es X.env)).any (·.1) = false) :
    PE X (.Call (.Name (P.fnm f) p) (a :: es) [] pos) (TE' T F W fun st => (g st).bind (callF P f)) := by
  obtain ⟨kp, fd, ps, dvs, dus, hb, hv, rd, ok⟩ := G
  rw [← hK] at kp hb ok
  refine PE.imp (pe_callSD ok hr hg (S.gfn f his) kp hb hv tk ha hd he hpl) fun σ H Q ⟨ι, Hs, st, R, h⟩ => ?_
  exact Post.first (rep := rA T) R h fun ι1 Hs1 H1 st1 vs ds p1 e1 R1 r1 h1 => call_core R1 r1 rd h1
/-- o.m(..), the class known when it runs -/
def invF (P : Pg) (m : Str) (fo : Stt → Out Rv) (g : Stt → Out (List D)) (st : Stt) : Out Rv := (fo st).bind fun r s => (capO r s).bind fun d s1 => match clsOf m s1 d with
    | some c => match P.mth c m with
      | some f => (g s1).bind fun ds s2 => callF P f (d :: ds) s2
      | none => .bad
    | none => .bad
theorem fdp_none {Hs : Hp} {ι : List Addr} {m : Str} : ∀ {gs : List (Str × V)} {fs : List (Str × D)}, FdP T Hs ι gs fs → fs.lookup m = none → gs.lookup m = none
  | _, _, .nil, _ => rfl
  | (g, v) :: gs, (g', e) :: fs, .cons ⟨h1, _⟩ r, h => by
    cases (show g = g' from h1)
    simp only [List.lookup] at h ⊢
    split at h
    · cases h
    · next hq => exact fdp_none r h
theorem cls_of {σ : L2.St} {ι : List Addr} {Hs H : Hp} {st : Stt} (R : Rel T F ι Hs H σ st) (S : SF T P X.mg) {v : V} {d : D} {c : Nat} {m : Str} {f : Nat} (r : Rp T Hs ι v d) (hc : clsOf m st d = some c) (hm : P.mth c m = some f) : ∃ a dx gs, v = .ref a ∧ H a = some (.ins (T.cad c) dx gs) ∧ gs.lookup m = none := by
  obtain ⟨_, _, hno⟩ := S.mth c m f hm
  cases d with
  | ins c' ds =>
    cases hc
    cases r with
    | ins hs fr rl => exact ⟨_, _, _, rfl, R.s.sub _ _ hs, fr.2 m (by rw [← S.fld c]; exact hno)⟩
  | own n =>
    simp only [clsOf] at hc
    split at hc
    · next c' fs hcs =>
      split at hc
      · next hnone =>
        cases hc
        cases r with
        | own hi =>
          obtain ⟨dx, gs, hg, fp⟩ := R.s.cell n _ _ hi hcs
          refine ⟨_, _, _, rfl, hg, ?_⟩
          have hl : fs.lookup m = none := by simpa using hnone
          exact fdp_none fp hl
      · cases hc
    · cases hc
  | _ => cases hc
/-- the form of a method call's tree -/
structure MethF (X : Cx) (o : Expr) (m : Str) (apos pos : Pos) (es : List Expr) : Prop where
  base : attributeBase o m X.env (eval o X.env) = eval o X.env
  form : methodCallForm es.length (backTo pos (starEach es X.env)) (backToKw pos (keywordEach [] X.env)) = true
  line : (apos.endLine == pos.line) = true
theorem MethF.ht {m : Str} (h : MethF X o m apos pos es) : eval (.Call (.Attribute o m apos) es [] pos) X.env = (do
      let ov ← eval o X.env
      standAt apos.atName
      let (f, first) ← holding [ov] (getMethod ov m (plainOf o X.env))
      callWith pos f first (backTo pos (starEach es X.env)) (backToKw pos (keywordEach [] X.env))) :=
  mcall_of h.base fun _ => mcall_line (by simpa using h.form) h.line
theorem te_inv {m : Str} {g : Stt → Out (List D)} (S : SF T P X.mg) (hK : X.K = T.K) (G : ∀ c f, P.mth c m = some f → FnA T P X.prog X.w X.mg X.base k f) (hr : Room k X.A) (tk : ∀ c f, P.mth c m = some f → ∀ σ, PassesAt (cxB (P.cln f) X.prog X.w) X σ (WE W σ)) (ho : PE X o (TE' T F W fo)) (hf : MethF X o m apos pos (a :: es))
    (ha : PA X (a :: es) (TA' T F W g)) (he : starEach (a :: es) X.env = (false, eval a X.env) :: starEach es X.env) (hpl : (backTo pos (starEach es X.env)).any (·.1) = false) :
    PE X (.Call (.Attribute o m apos) (a :: es) [] pos) (TE' T F W (invF P m fo g)) := by
  refine ⟨fun pins s σ H Q I h => ?_⟩
  refine PySem.W.methodCall_KW (pl := plainOf o X.env) (thn (ho.run pins s σ H (fun v H1 => ∃ ι1 Hs1 st1 d c f, Rel T F ι1 Hs1 H1 σ st1 ∧ Rp T Hs1 ι1 v d ∧ clsOf m st1 d = some c ∧ P.mth c m = some f ∧
      Post T F W σ (rE T F σ) ι1 Hs1 ((g st1).bind fun ds s2 => callF P f (d :: ds) s2) Q) I ?_) fun u s1 ⟨x, H1, I1, rx, ι1, Hs1, st1, d, c, f, R1, r1, hc, hm, h1⟩ => ?_) hf.ht
  · obtain ⟨ι, Hs, st, R, h⟩ := h
    refine te_bindC R h fun ι1 Hs1 H1 st1 v d R1 r1 h1 => ?_
    cases hc : clsOf m st1 d with
    | none => rw [hc] at h1; exact h1.elim
    | some c =>
      rw [hc] at h1
      simp only at h1
      cases hm : P.mth c m with
      | none => rw [hm] at h1; exact h1.elim
      | some f =>
        rw [hm] at h1
        exact ⟨ι1, Hs1, st1, d, c, f, R1, r1, hc, hm, h1⟩
  · obtain ⟨a', dx, gs, rfl, hH, hl⟩ := cls_of R1 S r1 hc hm
    obtain rfl : u = Value.ref a' := rx
    obtain ⟨hk, hM, _⟩ := S.mth c m f hm
    obtain ⟨kp, fd, ps, dvs, dus, hb, hv, rd, ok⟩ := G c f hm
    have hcl := S.cls c hk
    rw [← hK] at kp hb ok hM hcl
    refine getmeth_ok I1 hH hcl hM hl ?_
    refine PySem.W.callWith_K (first := [.ref a']) (h₀ := X.base) I.ok.mod.kin hM.kp (thn (ha.run pos pins s1 σ H1 (fun vs H2 => spF T (P.sem f) (.ref a' :: (vs ++ dvs)) H2 Q (WE W σ)) I1 ?_) fun us s2 ⟨vs, H2, I2, r, q2⟩ => ⟨I2.kIn, ?_⟩) he hpl
    · exact Post.first (rep := rA T) R1 h1 fun ι2 Hs2 H2 st2 vs ds p2 e2 R2 r2 h2 => call_core (vs := .ref a' :: vs) R2 (.cons (r1.up e2 p2) r2) rd h2
    · exact run_fnSD (us := .ref a' :: us) (vs := .ref a' :: vs) ok hr hb hv (tk c f hm σ) I2 (.cons rfl r) q2
theorem te_inv0 {m : Str} (S : SF T P X.mg) (hK : X.K = T.K) (G : ∀ c f, P.mth c m = some f → FnA T P X.prog X.w X.mg X.base k f) (hr : Room k X.A) (tk : ∀ c f, P.mth c m = some f → ∀ σ, PassesAt (cxB (P.cln f) X.prog X.w) X σ (WE W σ)) (ho : PE X o (TE' T F W fo)) (hf : MethF X o m apos pos []) :
    PE X (.Call (.Attribute o m apos) [] [] pos) (TE' T F W (invF P m fo fun st => .ok [] st)) := by
  refine ⟨fun pins s σ H Q I h => ?_⟩
  refine PySem.W.methodCall_KW (pl := plainOf o X.env) (thn (ho.run pins s σ H (fun v H1 => ∃ ι1 Hs1 st1 d c f, Rel T F ι1 Hs1 H1 σ st1 ∧ Rp T Hs1 ι1 v d ∧ clsOf m st1 d = some c ∧ P.mth c m = some f ∧
      Post T F W σ (rE T F σ) ι1 Hs1 (callF P f [d] st1) Q) I ?_) fun u s1 ⟨x, H1, I1, rx, ι1, Hs1, st1, d, c, f, R1, r1, hc, hm, h1⟩ => ?_) hf.ht
  · obtain ⟨ι, Hs, st, R, h⟩ := h
    refine te_bindC R h fun ι1 Hs1 H1 st1 v d R1 r1 h1 => ?_
    cases hc : clsOf m st1 d with
    | none => rw [hc] at h1; exact h1.elim
    | some c =>
      rw [hc] at h1
      simp only at h1
      cases hm : P.mth c m with
      | none => rw [hm] at h1; exact h1.elim
      | some f =>
        rw [hm] at h1
        exact ⟨ι1, Hs1, st1, d, c, f, R1, r1, hc, hm, h1⟩
  · obtain ⟨a', dx, gs, rfl, hH, hl⟩ := cls_of R1 S r1 hc hm
    obtain rfl : u = Value.ref a' := rx
    obtain ⟨hk, hM, _⟩ := S.mth c m f hm
    obtain ⟨kp, fd, ps, dvs, dus, hb, hv, rd, ok⟩ := G c f hm
    have hcl := S.cls c hk
    rw [← hK] at kp hb ok hM hcl
    refine getmeth_ok I1 hH hcl hM hl ?_
    exact PySem.W.callWith_K0 (first := [.ref a']) I1.kIn hM.kp (run_fnSD (us := [.ref a']) (vs := [.ref a']) ok hr hb hv (tk c f hm σ) I1 (.cons rfl .nil) (call_core (vs := [.ref a']) R1 (.cons r1 .nil) rd h1))
end
end Lit
end
section
set_option maxHeartbeats 1000000
namespace Lit
open PySem L2 PyProof.Rows
section
variable {T : Tb} {Hs Hs' : Hp} {ι ι' : List Addr} {n : Nat}
mutual
theorem rp_low (e : Same Hs Hs') (p : ∀ m, m < n → ι[m]? = ι'[m]?) : ∀ (d : D) (v : V), Rp T Hs ι v d → low n d = true → Rp T Hs' ι' v d
  | .non, _, .non, _ => .non
  | .bl b, _, .bl _, _ => .bl b
  | .int i, _, .int _, _ => .int i
  | .str x, _, .str _, _ => .str x
  | .lst xs, _, .lst h r, l => .lst (e _ _ h) (rps_low e p xs _ r (by simpa only [low] using l))
  | .tup xs, _, .tup h r, l => .tup (e _ _ h) (rps_low e p xs _ r (by simpa only [low] using l))
  | .ins c fs, _, .ins h f r, l => .ins (e _ _ h) f (rps_low e p fs _ r (by simpa only [low] using l))
  | .own m, _, .own h, l => .own (by rw [← p m (by simpa [low] using l)]; exact h)
  | .scr ns, _, .scr h, _ => .scr (e.seq h)
theorem rps_low (e : Same Hs Hs') (p : ∀ m, m < n → ι[m]? = ι'[m]?) : ∀ (ds : List D) (vs : List V), RpL T Hs ι vs ds → lows n ds = true → RpL T Hs' ι' vs ds
  | [], _, .nil, _ => .nil
  | d :: ds, _, .cons h r, l => by
    simp only [lows, Bool.and_eq_true] at l
    exact .cons (rp_low e p d _ h l.1) (rps_low e p ds _ r l.2)
end
theorem fdp_low (e : Same Hs Hs') (p : ∀ m, m < n → ι[m]? = ι'[m]?) : ∀ {gs : List (Str × V)} {fs : List (Str × D)}, FdP T Hs ι gs fs → (fs.all fun q => low n q.2) = true → FdP T Hs' ι' gs fs
  | _, _, .nil, _ => .nil
  | _, _, .cons h r, l => by
    simp only [List.all_cons, Bool.and_eq_true] at l
    exact .cons ⟨h.1, rp_low e p _ _ h.2 l.1⟩ (fdp_low e p r l.2)
theorem cell_low {H H' : Hp} {a : Addr} {c : Cell} (h : CellR T Hs H ι a c) (e : Same Hs Hs') (p : ∀ m, m < n → ι[m]? = ι'[m]?) (k : H' a = H a) (l : lowC n c = true) : CellR T Hs' H' ι' a c := by
  cases c with
  | lst xs => obtain ⟨vs, e1, r⟩ := h; exact ⟨vs, k.trans e1, rps_low e p _ _ r l⟩
  | ins c fs => obtain ⟨dx, gs, e1, r⟩ := h; exact ⟨dx, gs, k.trans e1, fdp_low e p r l⟩
/-- the fields in their order -/
theorem fldD_of {gs : List (Str × V)} {fs : List (Str × D)} (r : FdP T Hs ι gs fs) : ∀ {ns : List Str} {ds : List D}, fldD fs ns = some ds → ∃ vs, ns.map (fun f => gs.lookup f) = vs.map some ∧ RpL T Hs ι vs ds
  | [], ds, h => by cases h; exact ⟨[], rfl, .nil⟩
  | f :: ns, ds, h => by
    simp only [fldD] at h
    split at h
    · next d es h1 h2 =>
      cases h
      obtain ⟨vs, a1, a2⟩ := fldD_of r h2
      obtain ⟨v, b1, b2⟩ := fdp_lookup r h1
      exact ⟨v :: vs, by rw [List.map_cons, List.map_cons, b1, a1], .cons b2 a2⟩
    · cases h
theorem fdp_out {gs : List (Str × V)} {fs : List (Str × D)} (r : FdP T Hs ι gs fs) {ns : List Str} (h : (fs.all fun q => ns.contains q.1) = true) {m : Str} (hm : m ∉ ns) : gs.lookup m = none := by
  refine fdp_none r ?_
  clear r
  induction fs with
  | nil => rfl
  | cons q qs ih =>
    simp only [List.all_cons, Bool.and_eq_true] at h
    have hne : (m == q.1) = false := by
      cases e : (m == q.1) with
      | false => rfl
      | true =>
        have : m = q.1 := by simpa using e
        exact absurd (by rw [this]; simpa using h.1) hm
    simp only [List.lookup, hne]
    exact ih h.2
end
section
variable {T : Tb} {F : Fr} {W : WX} {X : Cx} {P : Pg} {a b c o : Expr} {es : List Expr} {fa fo : Stt → Out Rv} {pos apos p p2 : Pos} {k : Nat}
/-- a class is called: the instance, its dict, then __init__, what is raised wished for at these slots -/
theorem make_run {CX : CXT} {C f : Addr} {fd : FuncData} {ps : List Str} {sp : Sp} {dvs vs : List V} {dus us : List Value} {E : XK} {pins : List (Addr × Obj)} {σ : L2.St} {H : Hp} {s : Shared} {Q : VK} (M : Mk X.K C f)
    (G : FnOk X.prog X.w X.K X.mg X.base CX k f fd ps sp) (hr : Room (k + 1) X.A) (hb : Binds X.K fd ps dus) (hd : Vals dvs dus) (hx : PassesAt CX X σ E) (I : Inv X pins σ H s) (r : Vals vs us)
    (h : ∀ x dx, H x = none → H dx = none → dx ≠ x → sp (.ref x :: (vs ++ dvs)) (upd (upd H dx (.own x)) x (.ins C dx [])) (fun v H2 => v = .non ∧ Q (.ref x) H2) E) :
    wpAny (model X.prog X.w) X.A (call (.ref C) us) (EP X pins σ Q) X.xe s := by
  have g := h (s.heap.objs.size + 1) s.heap.objs.size (I.hok.fresh (Nat.le_succ _)) (I.hok.fresh (Nat.le_refl _)) (Nat.ne_of_lt (Nat.lt_succ_self _))
  have J := Inv.made (C := C) I
  have rr : Vals (V.ref (s.heap.objs.size + 1) :: (vs ++ dvs)) (Value.ref (s.heap.objs.size + 1) :: (us ++ dus)) := .cons rfl (r.append hd)
  have hl : (Value.ref (s.heap.objs.size + 1) :: us ++ dus).length = ps.length := by
    have e := rr.length
    rw [G.len _ _ _ _ g] at e
    exact e.symm
  have run := G.run _ X.stack _ _ ⟨Value.ref (s.heap.objs.size + 1) :: us, []⟩ (Value.ref (s.heap.objs.size + 1) :: (us ++ dus)) _ _ E (hr.make C us []) (J.env0.make C us []) (hb _ (Value.ref (s.heap.objs.size + 1) :: us) J.kIn hl) rr g
  refine wpAny_call (make_map (f := f) I.kIn M.makes M.init (beq_iff_eq.mp M.fn) (codeAny_mono run fun res s' q => ?_))
  cases res with
  | error e => exact hx pins _ _ e s' J q
  | ok fl =>
    cases fl with
    | ret u =>
      obtain ⟨v, H', J', rv, ev, q'⟩ := J.after q
      subst ev
      exact ⟨rv, .ref (s.heap.objs.size + 1), H', J', rfl, q'⟩
    | next => exact q.elim
    | brk => exact q.elim
    | cont => exact q.elim
theorem take_pre {ι ι' : List Addr} {x : Addr} (h : ι ++ [x] <+: ι') : ∀ m, m < ι.length → ι'[m]? = ι[m]? := fun m hm => by
  obtain ⟨t, rfl⟩ := h
  rw [List.append_assoc, List.getElem?_append_left hm]
/-- the instance's own cell is dropped, Hs3 knows it or not -/
theorem drop_step {ι ι2 : List Addr} {Hs Hs2 Hs3 H H1 H2 : Hp} {cs cs2 : List Cell} {x dx : Addr} {oi : HO} (R : SR T F ι Hs H cs) (nx : H x = none) (nd : H dx = none) (ne : dx ≠ x)
    (hH1 : H1 = upd (upd H dx (.own x)) x oi) (E : SR T (here H1 (ι ++ [x]) Hs) ι2 Hs2 H2 cs2) (hl : cs.length ≤ cs2.length) (low : ((cs2.take cs.length).all (lowC cs.length)) = true)
    (g : Same Hs2 Hs3) (g2 : Same Hs3 H2) (g3 : ∀ a u, Hs3 a = some u → Hs2 a = some u ∨ a = x) : SR T (here H ι Hs) ι Hs3 H2 (cs2.take cs.length) := by
  have hx := R.fresh nx
  have up1 : ∀ a u, H a = some u → H1 a = some u := fun a u e => by
    rw [hH1, upd_ne (ne_of_none e nx), upd_ne (ne_of_none e nd)]
    exact e
  have hpre : ι ++ [x] <+: ι2 := E.pre
  refine ⟨g2, List.prefix_refl _, fun a u e hi => ?_, fun a u e => ?_, fun a u e => ?_, R.inj, fun a m => ?_, fun a m => .inl m, ?_, fun m a c e1 e2 => ?_, nokp⟩
  · refine E.f1 a u (up1 a u e) fun m => ?_
    rcases List.mem_append.mp m with m | m
    · exact hi m
    · have : a = x := by simpa using m
      rw [this] at e
      rw [show H x = some u from e] at nx
      cases nx
  · rcases g3 a u e with e | e
    · rcases E.f2 a u e with z | z
      · exact .inl z
      · refine .inr ?_
        cases q : H a with
        | none => exact q
        | some w =>
          have z : H1 a = none := z
          rw [up1 a w q] at z
          cases z
    · exact .inr (e ▸ nx)
  · exact g a u (E.grow a u e)
  · cases q : Hs3 a with
    | none => rfl
    | some u =>
      rcases g3 a u q with z | z
      · have : a ∈ ι2 := hpre.subset (List.mem_append_left _ m)
        rw [E.io a this] at z
        cases z
      · exact absurd m (z ▸ hx.2.2)
  · rw [List.length_take, ← R.len]
    rw [← R.len] at hl
    omega
  · have hm : m < ι.length := (List.getElem?_eq_some_iff.mp e1).1
    have hm2 : m < cs.length := by rw [← R.len]; exact hm
    have e1' : ι2[m]? = some a := by rw [take_pre hpre m hm]; exact e1
    have e2' : cs2[m]? = some c := by rw [List.getElem?_take_of_lt hm2] at e2; exact e2
    have z := E.cell m a c e1' e2'
    exact cell_low (n := cs.length) z g (fun j hj => take_pre hpre j (by rw [R.len]; exact hj)) rfl (List.all_eq_true.mp low c (List.mem_of_getElem? e2))
theorem te_mk {c : Nat} {f : Nat} {g : Stt → Out (List D)} (S : SF T P X.mg) (hK : X.K = T.K) (hm : P.mki c = some f) (G : FnA T P X.prog X.w X.mg X.base k f) (hr : Room (k + 1) X.A) (tk : ∀ σ, PassesAt (cxB (P.cln f) X.prog X.w) X σ (WE W σ)) (hg : Gl X (P.cnm c)) (hd : ((P.cnm c) == ("__debug__" : Str)) = false)
    (ha : PA X (a :: es) (TA' T F W g)) (he : starEach (a :: es) X.env = (false, eval a X.env) :: starEach es X.env) (hpl : (backTo pos (starEach es X.env)).any (·.1) = false) :
    PE X (.Call (.Name (P.cnm c) p) (a :: es) [] pos) (TE' T F W fun st => (g st).bind (makeF P c)) := by
  obtain ⟨hkc, M⟩ := S.mki c f hm
  obtain ⟨kp, fd, ps, dvs, dus, hb, hv, rd, ok⟩ := G
  rw [← hK] at kp hb ok M
  refine ⟨fun pins s σ H Q I h => ?_⟩
  refine wpAny_Call_Name_kw (ld_glob I hg (S.gcl c hkc) ?_ hd)
  refine PySem.W.callWith_K (h₀ := X.base) I.ok.mod.kin M.kp (thn (ha.run pos pins s σ H (fun vs H1 => ∃ ι1 Hs1 st1 ds, Rel T F ι1 Hs1 H1 σ st1 ∧ RpL T Hs1 ι1 vs ds ∧ Post T F W σ (rE T F σ) ι1 Hs1 (makeF P c ds st1) Q) I ?_)
    fun us s1 ⟨vs, H1, I1, rv, ι1, Hs1, st1, ds, R1, r1, h1⟩ => ⟨I1.kIn, ?_⟩) he hpl
  · obtain ⟨ι, Hs, st, R, h⟩ := h
    exact Post.first (rep := rA T) R h fun ι1 Hs1 H1 st1 vs ds p1 e1 R1 r1 h1 => ⟨ι1, Hs1, st1, ds, R1, r1, h1⟩
  · refine make_run M ok hr hb hv (tk σ) I1 rv fun x dx nx nd ne => ?_
    -- the new instance as the last cell
    have E1 := R1.s.allocN (o := .own x) nd
    have S1 := R1.s.step E1
    have nx' : (upd H1 dx (.own x)) x = none := by rw [upd_ne ne.symm]; exact nx
    have E2 := S1.newCell nx' (o := .ins (T.cad c) dx []) (c := .ins c []) ⟨dx, [], upd_same, .nil⟩
    have S2 := S1.step E2
    refine ⟨ι1 ++ [x], Hs1, st1.cs ++ [.ins c []], .own st1.cs.length :: (ds ++ P.dfs f), S2.start, .cons (.own ?_) ((r1.up (Same.refl _) (List.prefix_append _ _)).app (rd _ _)), ?_⟩
    · rw [← R1.s.len]; simp
    · unfold makeF at h1
      rw [hm] at h1
      simp only at h1
      cases e : P.sem f (.own st1.cs.length :: (ds ++ P.dfs f)) (st1.cs ++ [.ins c []]) with
      | none => rw [e] at h1; exact h1.elim
      | some q =>
        obtain ⟨res, cs2⟩ := q
        rw [e] at h1
        cases res with
        | exc ex =>
          simp only at h1
          split at h1
          · next hlow =>
            rw [Bool.and_eq_true] at hlow
            intro ι2 Hs2 H2 cls d E3 rx
            have D := drop_step R1.s nx nd ne rfl E3 hlow.1 hlow.2.2 (Same.refl _) E3.sub (fun a u e => .inl e)
            refine h1 ι1 Hs2 H2 cls d (List.prefix_refl _) D.grow (R1.step D) ⟨rx.1, rx.2.1, fun hne => ?_⟩
            obtain ⟨dd, fs, vs', a1, a2, a3, a4⟩ := rx.2.2 hne
            exact ⟨dd, fs, vs', a1, a2, a3, rps_low (n := st1.cs.length) (Same.refl _) (fun j hj => take_pre E3.pre j (by rw [R1.s.len]; exact hj)) _ _ a4 hlow.2.1⟩
          · exact h1.elim
        | ret d =>
          cases d with
          | non =>
            simp only at h1
            cases es' : sealC P st1.cs.length c cs2 with
            | none => rw [es'] at h1; exact h1.elim
            | some q =>
              obtain ⟨d, cs3⟩ := q
              rw [es'] at h1
              intro ι2 Hs2 H2 v E3 rv'
              cases rv'
              refine ⟨rfl, ?_⟩
              unfold sealC at es'
              split at es'
              · next hlen =>
                split at es'
                · next c' fs hcell =>
                  split at es'
                  · next hcond =>
                    obtain ⟨hc', hall, hlow⟩ := hcond
                    subst hc'
                    rw [Option.map_eq_some_iff] at es'
                    obtain ⟨dd, hdd, e4⟩ := es'
                    cases e4
                    have hpre : ι1 ++ [x] <+: ι2 := E3.pre
                    have hx : ι2[st1.cs.length]? = some x := pre_get hpre (by rw [← R1.s.len]; simp)
                    obtain ⟨dx2, gs, hH2, fp⟩ := E3.cell _ _ _ hx hcell
                    have nHs2 : Hs2 x = none := E3.io x (List.mem_of_getElem? hx)
                    have g : Same Hs2 (upd Hs2 x (.ins (T.cad c') dx2 gs)) := same_upd nHs2
                    have D := drop_step (Hs3 := upd Hs2 x (.ins (T.cad c') dx2 gs)) R1.s nx nd ne rfl E3 (by omega) hlow g (fun a u q => by
                        by_cases z : a = x
                        · subst z; rw [upd_same] at q; rw [hH2]; exact q
                        · rw [upd_ne z] at q; exact E3.sub a u q) (fun a u q => by
                        by_cases z : a = x
                        · exact .inr z
                        · rw [upd_ne z] at q; exact .inl q)
                    have lowF : (fs.all fun q => low st1.cs.length q.2) = true := by
                      rw [List.all_eq_true] at hall ⊢
                      intro q hq
                      exact (Bool.and_eq_true_iff.mp (hall q hq)).1
                    have inF : (fs.all fun q => (P.fld c').contains q.1) = true := by
                      rw [List.all_eq_true] at hall ⊢
                      intro q hq
                      exact (Bool.and_eq_true_iff.mp (hall q hq)).2
                    have fp2 := fdp_low (n := st1.cs.length) g (fun j hj => take_pre hpre j (by rw [R1.s.len]; exact hj)) fp lowF
                    obtain ⟨vs', a1, a2⟩ := fldD_of fp2 hdd
                    refine h1 ι1 _ H2 _ (List.prefix_refl _) D.grow (R1.step D) (.ins upd_same ⟨by rw [← S.fld]; exact a1, fun m hmm => fdp_out fp inF (by rw [S.fld]; exact hmm)⟩ a2)
                  · cases es'
                · cases es'
              · cases es'
          | _ => exact h1.elim
/-- str(x) by one's own __str__ -/
def stoF (P : Pg) (f : Nat) (fa : Stt → Out Rv) (st : Stt) : Out Rv := (fa st).bind fun r s => (capO r s).bind fun d s1 => match d with
    | .ins c _ => if P.mth c "__str__" = some f then (callF P f [d] s1).bind fun r s2 => match r with
        | .sh (.str x) => .ok (.sh (.str x)) s2
        | _ => .bad
      else .bad
    | _ => .bad
theorem te_sto {f : Nat} (S : SF T P X.mg) (hK : X.K = T.K) (G : FnA T P X.prog X.w X.mg X.base k f) (hr : Room (k + 2) X.A) (tk : ∀ σ, PassesAt (cxB (P.cln f) X.prog X.w) X σ (WE W σ)) (hg : Gl X "str") (hmg : X.mg "str" = none)
    (ha : PE X a (TE' T F W fa)) (he : starEach [a] X.env = (false, eval a X.env) :: starEach [] X.env) : PE X (.Call (.Name "str" p) [a] [] pos) (TE' T F W (stoF P f fa)) := by
  obtain ⟨kp, fd, ps, dvs, dus, hb, hv, rd, ok⟩ := G
  rw [← hK] at kp hb ok
  refine ⟨fun pins s σ H Q I h => ?_⟩
  refine wpAny_Call_Name_kw (ld_blt I hg hmg (show bootBuiltins "str" = some (.type "str") by decide +kernel) ?_ (by decide) (by decide))
  refine PyProof.Rows.callWith_type1 (thn ((pa_cons ha pa_nil he).run pos pins s σ H (fun vs H1 => ∃ v ι1 Hs1 st1 c ds, vs = [v] ∧ Rel T F ι1 Hs1 H1 σ st1 ∧ Rp T Hs1 ι1 v (.ins c ds) ∧ P.mth c "__str__" = some f ∧
      Post T F W σ (rE T F σ) ι1 Hs1 ((callF P f [.ins c ds] st1).bind fun r s2 => match r with
        | .sh (.str x) => .ok (.sh (.str x)) s2
        | _ => .bad) Q) I ?_) fun us s1 ⟨vs, H1, I1, rv, v, ι1, Hs1, st1, c, ds, ev, R1, r1, hm, h1⟩ => ?_) he rfl
  · obtain ⟨ι, Hs, st, R, h⟩ := h
    refine te_bindC R h fun ι1 Hs1 H1 st1 v d R1 r1 h1 => ?_
    cases d with
    | ins c ds =>
      simp only at h1
      split at h1
      · next hm => exact ⟨v, ι1, Hs1, st1, c, ds, rfl, R1, r1, hm, h1⟩
      · exact h1.elim
    | _ => exact h1.elim
  · subst ev
    obtain ⟨u, rfl, ru⟩ := Vals.one rv
    obtain ⟨hkc, hM, hno⟩ := S.mth c "__str__" f hm
    cases r1 with
    | ins hs fr rl =>
      rename_i a' dx fs vs'
      obtain rfl : u = Value.ref a' := ru
      have hH := R1.s.sub _ _ hs
      obtain ⟨mA, O, _⟩ := ins_get I1.hok hH
      obtain ⟨od, J, _⟩ := O.look
      rw [← hK] at hM
      have sp : spF T (P.sem f) ([.ref a'] ++ dvs) H1 (fun v H2 => ∃ x, v = .str x ∧ Q (.str x) H2) (WE W σ) := by
        refine ⟨ι1, Hs1, st1.cs, [.ins c ds] ++ P.dfs f, R1.s.start, RpL.app (.cons (.ins hs fr rl) .nil) (rd _ _), ?_⟩
        unfold callF at h1
        cases e : P.sem f ([.ins c ds] ++ P.dfs f) st1.cs with
        | none => rw [e] at h1; exact h1.elim
        | some q =>
          obtain ⟨res, cs2⟩ := q
          rw [e] at h1
          cases res with
          | exc x => exact fun ι' Hs' H' cls d E rx => h1 ι' Hs' H' cls d E.pre E.grow (R1.step E) rx
          | ret d =>
            cases d with
            | str x =>
              intro ι' Hs' H' v E rv'
              cases rv'
              exact ⟨x, rfl, h1 ι' Hs' H' _ E.pre E.grow (R1.step E) (.str x)⟩
            | _ => exact h1.elim
      have hl : ([Value.ref a'] ++ dus).length = ps.length := by
        have e := ok.len _ _ _ _ sp
        rw [← e, List.length_append, List.length_append, hv.length]
        rfl
      refine PySem.W.kso_call (hu := ?_) I1.kIn J hM.at_ hM.fn (wpAny_call (codeAny_mono (ok.run X.A.in1.in1 X.stack s1 H1 ⟨[.ref a'], []⟩ ([.ref a'] ++ dus) ([.ref a'] ++ dvs) _ (WE W σ) (hr.in1.in1) I1.env0.in1.in1 (hb s1 [.ref a'] I1.kIn hl) (Paired.cons (show RelV (V.ref a') (Value.ref a') from rfl) hv) sp) fun res s' q => ?_))
      · have := hr.in1.in1.units0
        exact this
      · cases res with
        | error e => exact tk σ pins H1 s1 e s' I1 q
        | ok fl =>
          cases fl with
          | ret u' =>
            obtain ⟨v', H', J', rv', x, ev, q'⟩ := I1.after q
            subst ev
            obtain ⟨t, rfl⟩ := rv'
            exact ⟨.str x, H', J', ⟨t, rfl⟩, q'⟩
          | next => exact q.elim
          | brk => exact q.elim
          | cont => exact q.elim
end
end Lit
end
section
set_option maxHeartbeats 1000000
namespace Lit
open PySem L2 PyProof.Rows
section
variable {T : Tb} {F : Fr} {W : WX} {X : Cx} {P : Pg} {a b c o : Expr} {es : List Expr} {fa fb fo : Stt → Out Rv} {pos apos p p2 : Pos} {k : Nat}
/-- what a method makes of the list at l -/
def rMu (T : Tb) (m : Me) : V → List V → Hp → VK → Prop := fun x xs H Q => ∃ (ι : List Addr) (Hs : Hp) (l : Addr) (vs : List V) (cur ds ys : List D) (d : D), x = .ref l ∧ H l = some (.lst vs) ∧ RpL T Hs ι vs cur ∧ RpL T Hs ι xs ds ∧ gMu m cur ds = some (d, ys) ∧
  ∀ vs' w, RpL T Hs ι vs' ys → Rp T Hs ι w d → Q w (upd H l (.lst vs'))
theorem mu_g : ∀ m : Me, MtR X m.id (rMu T m) := by
  intro m pins s σ H x xs v us Q I rx rv h
  obtain ⟨ι, Hs, l, vs, cur, ds, ys, d, rfl, hl, rc, rd, hg, q⟩ := h
  cases m with
  | append =>
    cases rd with
    | nil => cases hg
    | cons r1 r2 =>
      cases r2 with
      | cons _ _ => cases hg
      | nil =>
        simp only [gMu] at hg
        split at hg
        · next hz =>
          cases hg
          exact mt_append pins s σ H _ _ v us Q I rx rv ⟨l, vs, _, rfl, rfl, hl, by rw [rc.length, line_eq]; exact hz, q _ _ (rc.app (.cons r1 .nil)) .non⟩
        · cases hg
  | popAt =>
    cases rd with
    | nil => cases hg
    | @cons v1 d1 _ _ r1 r2 =>
      cases r2 with
      | cons _ _ => cases d1 <;> cases hg
      | nil =>
        cases d1 with
        | int i =>
          cases r1
          simp only [gMu] at hg
          split at hg
          · next j hj =>
            split at hg
            · next hz =>
              rw [Option.map_eq_some_iff] at hg
              obtain ⟨d', hd', e⟩ := hg
              cases e
              obtain ⟨w, hw, rw_⟩ := rc.get hd'
              obtain ⟨h1, _⟩ := ixN_seq hj
              exact mt_popAt pins s σ H _ _ v us Q I rx rv ⟨l, vs, i, j, w, rfl, rfl, hl, by omega, by omega, by rw [rc.length]; exact h1, hw, q _ _ (rc.erase j) rw_⟩
            · cases hg
          · cases hg
        | _ => cases hg
  | pop =>
    cases rd with
    | cons _ _ => cases hg
    | nil =>
      simp only [gMu] at hg
      split at hg
      · next d' hd' =>
        cases hg
        rw [List.getLast?_eq_getElem?] at hd'
        obtain ⟨w, hw, rw_⟩ := rc.get hd'
        refine mt_pop pins s σ H _ _ v us Q I rx rv ⟨l, vs, w, rfl, rfl, hl, by rw [rc.length]; exact hw, q _ _ ?_ rw_⟩
        rw [List.dropLast_eq_take, List.dropLast_eq_take, rc.length]
        exact rc.take _
      · cases hg
  | insert =>
    cases rd with
    | nil => cases hg
    | @cons v1 d1 _ _ r1 r2 =>
      cases r2 with
      | nil => cases d1 <;> cases hg
      | @cons v2 d2 _ _ r2 r3 =>
        cases r3 with
        | cons _ _ => cases d1 <;> cases hg
        | nil =>
          cases d1 with
          | int i =>
            cases r1
            simp only [gMu] at hg
            split at hg
            · next hz =>
              cases hg
              exact mt_insert pins s σ H _ _ v us Q I rx rv ⟨l, vs, i, _, rfl, rfl, hl, by rw [rc.length, line_eq]; exact hz.1, hz.2.1, by omega, q _ _ (((rc.take _).app (.cons r2 .nil)).app (rc.drop _)) .non⟩
            · cases hg
          | _ => cases hg
  | _ => cases hg
def muF (m : Me) (fo : Stt → Out Rv) (g : Stt → Out (List D)) (st : Stt) : Out Rv := (fo st).bind fun r s1 => if ((view s1 (setl r)).any (tyM m)) = true then (g s1).bind fun ds s2 => match locR (setl r) s2 with
    | some (l, xs) => match gMu m xs ds with
      | some (d, ys) => .ok (.sh d) (setLoc l ys s2)
      | none => .bad
    | none => .bad
    else .bad
theorem mu_read {m : Me} {g : Stt → Out (List D)} {t : TA} (hK : X.K = T.K) (ht : ∀ σ H Q, TA' T F W g σ H Q → t σ H Q) {σ : L2.St} {H : Hp} {Q : VK} (h : TE' T F W (muF m fo g) σ H Q) : tBM X.K m.ty (rMu T m) (TE' T F W fo) t σ H Q := by
  obtain ⟨ι, Hs, st, R, h⟩ := h
  refine te_bindS R h fun ι1 Hs1 H1 st1 v r R1 r1 h1 => ?_
  split at h1
  · next hty =>
    obtain ⟨d, e, td⟩ := any_some hty
    refine ⟨tyM_v hK (R1.view r1 e) td, ht _ _ _ ?_⟩
    refine Post.first (rep := rA T) R1 h1 fun ι2 Hs2 H2 st2 vs ds p2 e2 R2 r2 h2 => ?_
    have q1 : RpR T F ι2 Hs2 H2 σ st2 v (setl r) := RpR.stay r1 p2 e2
    split at h2
    · next l xs hloc =>
      split at h2
      · next d' ys hmu =>
        obtain ⟨p, cur, rfl, hp, rc, put⟩ := R2.loc q1 hloc
        exact ⟨ι2, Hs2, p, cur, xs, ds, ys, d', rfl, hp, rc, r2, hmu, fun vs' w a1 a2 => h2.done (put vs' ys a1) a2⟩
      · exact h2.elim
    · exact h2.elim
  · exact h1.elim
theorem te_mu (m : Me) {g : Stt → Out (List D)} (hK : X.K = T.K) (ho : PE X o (TE' T F W fo)) (ha : PA X (a :: es) (TA' T F W g)) (hb : attributeBase o m.nm X.env (eval o X.env) = eval o X.env) (hf : ArgF X pos a es) (hl : (apos.endLine == pos.line) = true) :
    PE X (.Call (.Attribute o m.nm apos) (a :: es) [] pos) (TE' T F W (muF m fo g)) :=
  PE.imp (pe_bm (me_pa m) (me_slot m) (me_type m) (mu_g m) ho ha hb hf.few hl hf.st hf.pl) fun σ H Q h => mu_read hK (fun _ _ _ z => z) h
theorem te_mu0 (m : Me) (hK : X.K = T.K) (ho : PE X o (TE' T F W fo)) (hb : attributeBase o m.nm X.env (eval o X.env) = eval o X.env) (hl : (apos.endLine == pos.line) = true) :
    PE X (.Call (.Attribute o m.nm apos) [] [] pos) (TE' T F W (muF m fo fun st => .ok [] st)) :=
  PE.imp (pe_bm0 (me_pa m) (me_slot m) (me_type m) (mu_g m) ho hb hl) fun σ H Q h => by
    have z := mu_read (X := X) (t := tNil) hK (fun σ H Q ⟨ι, Hs, st, R, h⟩ => h.done R .nil) h
    exact z
/-- J hands out vs, wherever Hs stands -/
structure ItV (J : It) (vs : List V) (Hs : Hp) : Prop where
  stop : ∀ H, Same Hs H → J.stop vs.length H
  go : ∀ i H, Same Hs H → i < vs.length → J.go i H
  yld : ∀ i H x H', Same Hs H → i < vs.length → J.yld i H x H' → H' = H ∧ vs[i]? = some x
theorem itv_list {K : PySem.W.Frag} {a : Addr} {vs : List V} {Hs : Hp} (h : Hs a = some (.lst vs)) : ItV (Itl K a) vs Hs where
  stop := fun H e => ⟨vs, .of (e _ _ h), Nat.le_refl _⟩
  go := fun i H e hi => ⟨vs, vs[i], .of (e _ _ h), List.getElem?_eq_getElem hi⟩
  yld := fun i H x H' e hi y => ⟨y.1, y.2 vs (.of (e _ _ h))⟩
theorem itv_tup {K : PySem.W.Frag} {a : Addr} {vs : List V} {Hs : Hp} (h : Hs a = some (.tup vs)) : ItV (Itt K a) vs Hs where
  stop := fun H e => ⟨vs, .of (e _ _ h), Nat.le_refl _⟩
  go := fun i H e hi => ⟨vs, vs[i], .of (e _ _ h), List.getElem?_eq_getElem hi⟩
  yld := fun i H x H' e hi y => ⟨y.1, y.2 vs (.of (e _ _ h))⟩
theorem itv_str {x : Str} {Hs : Hp} : ItV (Its x) (x.cps.toList.map fun c => V.str ⟨#[c]⟩) Hs where
  stop := fun H e => by show x.cps.size ≤ _; simp
  go := fun i H e hi => by show i < x.cps.size; simpa using hi
  yld := fun i H v H' e hi y => by
    obtain ⟨e1, c, hc, rfl⟩ := y
    refine ⟨e1, ?_⟩
    rw [List.getElem?_map, Array.getElem?_toList, hc]
    rfl
theorem itv_rng {lo : Int} {n : Nat} {Hs : Hp} : ItV (Itr lo n) ((List.range n).map fun k => V.int (lo + (k : Nat))) Hs where
  stop := fun H e => by show n ≤ _; simp
  go := fun i H e hi => by show i < n; simpa using hi
  yld := fun i H v H' e hi y => by
    obtain ⟨e1, rfl⟩ := y
    have hi' : i < n := by simpa using hi
    refine ⟨e1, ?_⟩
    rw [List.getElem?_map, List.getElem?_range hi']
    rfl
/-- an iterable of kind k over a, b -/
def walkOf (X : Cx) : ItK → TE → TE → TI
  | .lst, ta, _ => iList X.K ta
  | .tup, ta, _ => iTup X.K ta
  | .str, ta, _ => iStr ta
  | .rng1, ta, _ => iRng1 (tCons ta tNil)
  | .rng2, ta, tb => iRng2 (tCons ta (tCons tb tNil))
theorem rng_rep {Hs : Hp} {ι : List Addr} (lo : Int) (l : List Nat) : RpL T Hs ι (l.map fun k => V.int (lo + (k : Nat))) (l.map fun k => D.int (lo + (k : Nat))) := by
  induction l with
  | nil => exact .nil
  | cons k l ih => exact .cons (.int _) ih
theorem str_rep {Hs : Hp} {ι : List Addr} (l : List Nat) : RpL T Hs ι (l.map fun c => V.str ⟨#[c]⟩) (l.map fun c => D.str ⟨#[c]⟩) := by
  induction l with
  | nil => exact .nil
  | cons k l ih => exact .cons (.str _) ih
/-- kinds of one operand have no second one -/
def oneOp : ItK → Bool
  | .rng2 => false
  | _ => true
theorem walk_read {γ δ : Type} (kd : ItK) {σ : L2.St} {H : Hp} {ι : List Addr} {Hs : Hp} {st : Stt} {rep : List Addr → Hp → Hp → Stt → δ → γ → Prop} {kk : D → D → Stt → Out γ} {Q : δ → Hp → Prop} {R1 : It → Hp → Prop} (hfb : oneOp kd = true → fb = fun st => .ok (.sh .non) st) (R : Rel T F ι Hs H σ st)
    (h : Post T F W σ rep ι Hs ((fa st).bind fun ra s1 => (capO ra s1).bind fun da s2 => (fb s2).bind fun rb s3 => (capO rb s3).bind fun db s4 => kk da db s4) Q)
    (hbad : ∀ da db s, iterD kd da db = none → kk da db s = .bad)
    (hk : ∀ ι1 Hs1 H1 st1 da db xs vs J, Rel T F ι1 Hs1 H1 σ st1 → iterD kd da db = some xs → RpL T Hs1 ι1 vs xs → ItV J vs Hs1 → Post T F W σ rep ι1 Hs1 (kk da db st1) Q → R1 J H1) :
    walkOf X kd (TE' T F W fa) (TE' T F W fb) σ H R1 := by
  have known : ∀ {ι1 : List Addr} {Hs1 : Hp} {da db : D} {s : Stt}, Post T F W σ rep ι1 Hs1 (kk da db s) Q → ∃ xs, iterD kd da db = some xs := fun {ι1 Hs1 da db s} hp => by
    cases e : iterD kd da db with
    | some xs => exact ⟨xs, rfl⟩
    | none => rw [hbad _ _ _ e] at hp; exact hp.elim
  by_cases ho : oneOp kd = true
  · cases hfb ho
    simp only [Out.bind_ok, capO, capR] at h
    have one : TE' T F W fa σ H fun v H1 => ∃ ι1 Hs1 st1 d xs, Rel T F ι1 Hs1 H1 σ st1 ∧ Rp T Hs1 ι1 v d ∧ iterD kd d .non = some xs ∧ Post T F W σ rep ι1 Hs1 (kk d .non st1) Q := by
      refine te_bindC R (k := fun da s2 => kk da .non s2) h fun ι1 Hs1 H1 st1 v d R1 r1 h1 => ?_
      obtain ⟨xs, e⟩ := known h1
      exact ⟨ι1, Hs1, st1, d, xs, R1, r1, e, h1⟩
    obtain ⟨ι0, Hs0, st0, R0, h0⟩ := one
    cases kd with
    | lst =>
      refine ⟨ι0, Hs0, st0, R0, ?_⟩
      cases e0 : fa st0 with
      | bad => rw [e0] at h0; exact h0
      | exc x s => rw [e0] at h0; exact h0
      | ok r s =>
        rw [e0] at h0
        intro ι' Hs' H' v p1 e1 Rr rr
        obtain ⟨ι1, Hs1, st1, d, xs, R1', r1, e, hp⟩ := h0 ι' Hs' H' v p1 e1 Rr rr
        cases d with
        | lst ys =>
          cases e
          cases r1 with
          | lst hl rl => exact ⟨_, rfl, ⟨_, .of (R1'.s.sub _ _ hl)⟩, hk _ _ _ _ _ _ _ _ _ R1' rfl rl (itv_list hl) hp⟩
        | _ => cases e
    | tup =>
      refine ⟨ι0, Hs0, st0, R0, ?_⟩
      cases e0 : fa st0 with
      | bad => rw [e0] at h0; exact h0
      | exc x s => rw [e0] at h0; exact h0
      | ok r s =>
        rw [e0] at h0
        intro ι' Hs' H' v p1 e1 Rr rr
        obtain ⟨ι1, Hs1, st1, d, xs, R1', r1, e, hp⟩ := h0 ι' Hs' H' v p1 e1 Rr rr
        cases d with
        | tup ys =>
          cases e
          cases r1 with
          | tup hl rl => exact ⟨_, rfl, ⟨_, .of (R1'.s.sub _ _ hl)⟩, hk _ _ _ _ _ _ _ _ _ R1' rfl rl (itv_tup hl) hp⟩
        | _ => cases e
    | str =>
      refine ⟨ι0, Hs0, st0, R0, ?_⟩
      cases e0 : fa st0 with
      | bad => rw [e0] at h0; exact h0
      | exc x s => rw [e0] at h0; exact h0
      | ok r s =>
        rw [e0] at h0
        intro ι' Hs' H' v p1 e1 Rr rr
        obtain ⟨ι1, Hs1, st1, d, xs, R1', r1, e, hp⟩ := h0 ι' Hs' H' v p1 e1 Rr rr
        cases d with
        | str y =>
          cases e
          cases r1
          exact ⟨y, rfl, hk _ _ _ _ _ _ _ _ _ R1' rfl (str_rep _) itv_str hp⟩
        | _ => cases e
    | rng1 =>
      refine ⟨ι0, Hs0, st0, R0, ?_⟩
      cases e0 : fa st0 with
      | bad => rw [e0] at h0; exact h0
      | exc x s => rw [e0] at h0; exact h0
      | ok r s =>
        rw [e0] at h0
        intro ι' Hs' H' v p1 e1 Rr rr
        obtain ⟨ι1, Hs1, st1, d, xs, R1', r1, e, hp⟩ := h0 ι' Hs' H' v p1 e1 Rr rr
        cases d with
        | int n =>
          cases r1
          have e' := e
          simp only [iterD] at e
          split at e
          · next hz =>
            cases e
            refine ⟨n, rfl, hz.1, hz.2, ?_⟩
            refine hk _ _ _ _ _ _ _ _ _ R1' e' ?_ itv_rng hp
            unfold rngD
            rw [Int.sub_zero]
            exact rng_rep 0 _
          · cases e
        | _ => cases e
    | rng2 => cases ho
  · cases kd with
    | rng2 =>
      refine te_bindC R h fun ι1 Hs1 H1 st1 v d R1 r1 h1 => ?_
      refine te_bindC R1 h1 fun ι2 Hs2 H2 st2 w e R2 r2 h2 => ?_
      obtain ⟨xs, hx⟩ := known h2
      cases d with
      | int m =>
        cases r1
        cases e with
        | int n =>
          cases r2
          have hx' := hx
          simp only [iterD] at hx
          split at hx
          · next hz =>
            cases hx
            refine ⟨m, n, rfl, ⟨hz.1, hz.2.1, hz.2.2.1, hz.2.2.2⟩, ?_⟩
            exact hk _ _ _ _ _ _ _ _ _ R2 hx' (rng_rep m _) itv_rng h2
          · cases hx
        | _ => cases hx
      | _ => cases e <;> cases hx
    | _ => exact absurd rfl ho
/-- the walked thing's rule -/
theorem pi_of (kd : ItK) {tg iter : Expr} {ta tb : TE} (h : PI X tg iter (walkOf X kd ta tb)) {t : TI} (q : ∀ σ H R, t σ H R → walkOf X kd ta tb σ H R) : PI X tg iter t := ⟨fun pins s σ H R I z => h.run pins s σ H R I (q σ H R z)⟩
/-- over any walked thing -/
theorem lc_any {J : It} {vs : List V} {g : TG} {tt : TT} {te : TE} {ws : List Nat} {σ : L2.St} {H1 : Hp} {D : Addr} {Qd : Hp → Prop} (Pv : Nat → Hp → Prop) (h0 : Pv 0 (upd H1 D (.lst []))) (hJ : ∀ i H, Pv i H → ∃ Hs, ItV J vs Hs ∧ Same Hs H)
    (hs : ∀ i x H, vs[i]? = some x → Pv i H → g x (wipe σ ws) H fun σ2 H2 => wipe σ2 ws = wipe σ ws ∧ tt σ2 H2 fun b H3 =>
      if b = true then te σ2 H3 fun y H4 => ∃ acc, H4 D = some (.lst acc) ∧ acc.length < sizeLine ∧ Pv (i + 1) (upd H4 D (.lst (acc ++ [y]))) else Pv (i + 1) H3) (hd : ∀ H, Pv vs.length H → Qd H) :
    ∃ W : Nat → Nat → Hp → Prop, (∃ m, W 0 m (upd H1 D (.lst []))) ∧ ∀ i m H, W i m H →
      (J.stop i H ∧ Qd H) ∨ (J.go i H ∧ ∃ Nx : Hp → Prop, (∀ H', Nx H' → ∃ m', m' < m ∧ W (i + 1) m' H') ∧ ∀ x H', J.yld i H x H' → g x (wipe σ ws) H' fun σ2 H2 => wipe σ2 ws = wipe σ ws ∧ tt σ2 H2 fun b H3 =>
        if b = true then te σ2 H3 fun y H4 => ∃ acc, H4 D = some (.lst acc) ∧ acc.length < sizeLine ∧ Nx (upd H4 D (.lst (acc ++ [y]))) else Nx H3) := by
  refine ⟨fun i m H => m = vs.length - i ∧ i ≤ vs.length ∧ Pv i H, ⟨vs.length, by simp, Nat.zero_le _, h0⟩, ?_⟩
  rintro i m H ⟨rfl, hi, pv⟩
  obtain ⟨Hs, V, e⟩ := hJ i H pv
  by_cases hlt : i < vs.length
  · refine .inr ⟨V.go i H e hlt, Pv (i + 1), fun H' p' => ⟨vs.length - (i + 1), by omega, rfl, hlt, p'⟩, fun x H' y => ?_⟩
    obtain ⟨rfl, hx⟩ := V.yld i H x H' e hlt y
    exact hs i x _ hx pv
  · have hi' : i = vs.length := by omega
    subst hi'
    exact .inl ⟨V.stop H e, hd H pv⟩
/-- the frame with one more list under way -/
abbrev Fr.plus (F : Fr) (L : Addr) (o : HO) : Fr := { F with kp := (L, o) :: F.kp }
theorem SlR.frame {F F' : Fr} (h : F.H0 = F'.H0) {ι : List Addr} {Hs H : Hp} {o : Option (Option V)} {s : Sl} (z : SlR T F ι Hs H o s) : SlR T F' ι Hs H o s := by
  cases s with
  | no => trivial
  | sh d => exact z
  | mu xs => obtain ⟨p, vs, h1, h2, h3, r⟩ := z; exact ⟨p, vs, h1, h2, by rw [← h]; exact h3, r⟩
theorem Rel.keep {ι : List Addr} {Hs H : Hp} {σ : L2.St} {st : Stt} {L : Addr} {o : HO} (R : Rel T F ι Hs H σ st) (h1 : H L = some o) (h2 : Hs L = none) (h3 : F.H0 L = none) (h4 : L ∉ ι) (h5 : ∀ (i : Nat) (ys : List D), st.env[i]? = some (Sl.mu ys) → σ[i]? ≠ some (some (V.ref L))) :
    Rel T (F.plus L o) ι Hs H σ st := by
  refine ⟨⟨R.s.sub, R.s.pre, R.s.f1, R.s.f2, R.s.grow, R.s.inj, R.s.io, R.s.inew, R.s.len, R.s.cell, fun q hq => ?_⟩, ⟨R.e.len, fun i s h => SlR.frame (F := F) (F' := F.plus L o) rfl (R.e.at_ i s h), R.e.dj, fun q hq => ?_⟩⟩
  · rcases List.mem_cons.mp hq with rfl | hq
    · exact ⟨h1, h2, h3, h4⟩
    · exact R.s.kept q hq
  · rcases List.mem_cons.mp hq with rfl | hq
    · exact h5
    · exact R.e.kp q hq
/-- the list under way changes, it is under way no more -/
theorem Rel.unkeep {ι : List Addr} {Hs H : Hp} {σ : L2.St} {st : Stt} {L : Addr} {o o' : HO} (R : Rel T (F.plus L o) ι Hs H σ st) (h6 : ∀ q ∈ F.kp, q.1 ≠ L) :
    Rel T F ι Hs (upd H L o') σ st ∧ Hs L = none ∧ F.H0 L = none ∧ L ∉ ι ∧ (∀ (i : Nat) (ys : List D), st.env[i]? = some (Sl.mu ys) → σ[i]? ≠ some (some (V.ref L))) ∧ H L = some o := by
  obtain ⟨h1, h2, h3, h4⟩ := R.s.kept (L, o) List.mem_cons_self
  have h5 := R.e.kp (L, o) List.mem_cons_self
  refine ⟨⟨⟨fun a u e => ?_, R.s.pre, fun a u e hi => ?_, R.s.f2, R.s.grow, R.s.inj, R.s.io, R.s.inew, R.s.len, fun n a c e1 e2 => ?_, fun q hq => ?_⟩, ⟨R.e.len, fun i s h => ?_, R.e.dj, fun q hq => R.e.kp q (List.mem_cons_of_mem _ hq)⟩⟩, h2, h3, h4, h5, h1⟩
  · rw [upd_ne (fun z : a = L => by rw [z, h2] at e; cases e)]; exact R.s.sub a u e
  · rw [upd_ne (fun z : a = L => by rw [z, show F.H0 L = none from h3] at e; cases e)]; exact R.s.f1 a u e hi
  · exact (R.s.cell n a c e1 e2).up (Same.refl _) (List.prefix_refl _) (upd_ne fun z => h4 (z ▸ List.mem_of_getElem? e1))
  · obtain ⟨k1, k2, k3, k4⟩ := R.s.kept q (List.mem_cons_of_mem _ hq)
    exact ⟨by rw [upd_ne (h6 q hq)]; exact k1, k2, k3, k4⟩
  · have z := R.e.at_ i s h
    cases s with
    | no => trivial
    | sh d => exact z
    | mu xs =>
      obtain ⟨p, vs, a1, a2, a3, a4, a5, r⟩ := z
      exact ⟨p, vs, a1, a2, a3, a4, by rw [upd_ne (fun z : p = L => h5 i xs h (z ▸ a1))]; exact a5, r⟩
/-- a slot's value changes to shared data, or to nothing -/
theorem Rel.setSlot {ι : List Addr} {Hs H : Hp} {σ : L2.St} {st : Stt} (R : Rel T F ι Hs H σ st) (i : Nat) {s : Sl} {o : Option V} (hs : isMu s = false) (h : SlR T F ι Hs H (some o) s) : Rel T F ι Hs H (σ.set i o) (st.put i s) := by
  refine ⟨R.s, ⟨by show (σ.set i o).length = (st.env.set i s).length; rw [List.length_set, List.length_set]; exact R.e.len, fun j t hj => ?_, fun j k xs ys p a1 a2 b1 b2 => ?_, fun q hq j ys a1 => ?_⟩⟩
  · have hj : (st.env.set i s)[j]? = some t := hj
    by_cases e : i = j
    · subst e
      have hlt : i < st.env.length := by
        have := (List.getElem?_eq_some_iff.mp hj).1
        rwa [List.length_set] at this
      rw [List.getElem?_set_self hlt] at hj
      cases hj
      rw [List.getElem?_set_self (by rw [R.e.len]; exact hlt)]
      exact h
    · rw [List.getElem?_set_ne e] at hj
      rw [List.getElem?_set_ne e]
      exact R.e.at_ j t hj
  · have out : ∀ {j : Nat} {zs : List D}, (st.env.set i s)[j]? = some (.mu zs) → j ≠ i ∧ st.env[j]? = some (.mu zs) := fun {j zs} hj => by
      by_cases e : i = j
      · subst e
        rw [List.getElem?_set_self'] at hj
        cases q : st.env[i]? with
        | none => rw [q] at hj; cases hj
        | some w => rw [q] at hj; cases hj; cases hs
      · rw [List.getElem?_set_ne e] at hj; exact ⟨fun z => e z.symm, hj⟩
    obtain ⟨n1, a1⟩ := out a1
    obtain ⟨n2, a2⟩ := out a2
    rw [List.getElem?_set_ne n1.symm] at b1
    rw [List.getElem?_set_ne n2.symm] at b2
    exact R.e.dj j k xs ys p a1 a2 b1 b2
  · have a1 : (st.env.set i s)[j]? = some (.mu ys) := a1
    by_cases e : i = j
    · subst e
      rw [List.getElem?_set_self'] at a1
      cases q : st.env[i]? with
      | none => rw [q] at a1; cases a1
      | some w => rw [q] at a1; cases a1; cases hs
    · rw [List.getElem?_set_ne e] at a1 ⊢
      exact R.e.kp q hq j ys a1
theorem Stt.put_put (st : Stt) (i : Nat) (s t : Sl) : (st.put i s).put i t = st.put i t := by
  unfold Stt.put
  simp
theorem ItV.up {J : It} {vs : List V} {Hs Hs' : Hp} (V : ItV J vs Hs) (e : Same Hs Hs') : ItV J vs Hs' :=
  ⟨fun H q => V.stop H (e.trans q), fun i H q => V.go i H (e.trans q), fun i H x H' q => V.yld i H x H' (e.trans q)⟩
abbrev W0 : WX := fun _ _ _ _ => False
def TEx (T : Tb) (f : Stt → Out Rv) : TE := fun σ H Q => ∃ F, TE' T F W0 f σ H Q
def TTx (T : Tb) (f : Stt → Out Bool) : TT := fun σ H Q => ∃ F, TT' T F W0 f σ H Q
theorem PE.ex {e : Expr} {f : Stt → Out Rv} (h : ∀ F, PE X e (TE' T F W0 f)) : PE X e (TEx T f) := ⟨fun pins s σ H Q I ⟨F, z⟩ => (h F).run pins s σ H Q I z⟩
theorem PTs.ex {es : List Expr} {f : Stt → Out Bool} (h : ∀ F, PTs X es (TT' T F W0 f)) : PTs X es (TTx T f) := ⟨fun pins s σ H Q I ⟨F, z⟩ => (h F).run pins s σ H Q I z⟩
def lcE (i : Nat) (kd : ItK) (fa fb : Stt → Out Rv) (cond : Stt → Out Bool) (el : Stt → Out Rv) (st : Stt) : Out Rv :=
  (fa st).bind fun ra s1 => (capO ra s1).bind fun da s2 => (fb s2).bind fun rb s3 => (capO rb s3).bind fun db s4 => lcK i kd cond el da db s4
theorem chk_eq {α : Type} (o : Option Nat) (xs : List D) (f : Stt → Out α) (st : Stt) : chk o xs f st = (f st).bind fun r s => if okC o xs s = true then .ok r s else .bad := by
  cases o with
  | some n => rfl
  | none =>
    show f st = _
    cases f st <;> rfl
theorem cap_cs {r : Rv} {st s' : Stt} {d : D} (h : capR r st = some (d, s')) : s'.cs = st.cs := by
  unfold capR at h
  split at h
  · cases h; rfl
  · cases h; rfl
  · split at h
    · cases h; rfl
    · cases h; rfl
    · cases h
theorem flat_val {Hs Hs' : Hp} {ι ι' : List Addr} {v w : V} {d : D} (h : Rp T Hs ι v d) (h2 : Rp T Hs' ι' w d) (f : isFlat d = true) : v = w := by
  cases h <;> first | (cases h2; rfl) | (cases f; done)
theorem idFl_eq {x y : D} (h : idFl x y = true) : x = y := by
  cases x <;> cases y <;> first | rfl | (cases h; done) | (have h2 := of_decide_eq_true h; rw [h2])
theorem eqFls_eq : ∀ {xs ys : List D}, eqFls xs ys = true → xs = ys
  | [], [], _ => rfl
  | x :: xs, y :: ys, h => by
    simp only [eqFls, Bool.and_eq_true] at h
    rw [idFl_eq h.1, eqFls_eq h.2]
  | [], _ :: _, h => nomatch h
  | _ :: _, [], h => nomatch h
theorem flats_val {Hs Hs' : Hp} {ι ι' : List Addr} : ∀ {vs ws : List V} {ds : List D}, RpL T Hs ι vs ds → RpL T Hs' ι' ws ds → ds.all isFlat = true → vs = ws
  | _, _, _, .nil, .nil, _ => rfl
  | _, _, _, .cons h r, .cons h2 r2, f => by
    rw [List.all_cons, Bool.and_eq_true] at f
    rw [flat_val h h2 f.1, flats_val r r2 f.2]
theorem eqFls_refl : ∀ {xs : List D}, xs.all isFlat = true → eqFls xs xs = true
  | [], _ => rfl
  | x :: xs, h => by
    rw [List.all_cons, Bool.and_eq_true] at h
    have h1 : idFl x x = true := by cases x <;> first | rfl | (exact decide_eq_true rfl) | (exact absurd h.1 (by simp [isFlat]))
    simp only [eqFls, h1, eqFls_refl h.2, Bool.and_self]
/-- the list that stands at a -/
def oneH (a : Addr) (vs : List V) : Hp := fun p => if p = a then some (.lst vs) else none
theorem oneH_at (a : Addr) (vs : List V) : oneH a vs a = some (.lst vs) := by simp [oneH]
theorem oneH_same {a : Addr} {vs : List V} {H : Hp} (h : H a = some (.lst vs)) : Same (oneH a vs) H := by
  intro p o e
  unfold oneH at e
  split at e
  · next z => cases e; rw [z]; exact h
  · cases e
theorem cel_view {o : Nat} {xs : List D} {vs : List V} {F' : Fr} {ι1 ι2 : List Addr} {Hs1 Hs2 H2 : Hp} {σ2 : L2.St} {st2 : Stt} {a : Addr} (ha : ι1[o]? = some a) (rx : RpL T Hs1 ι1 vs xs) (hf : xs.all isFlat = true)
    (p : ι1 <+: ι2) (R : Rel T F' ι2 Hs2 H2 σ2 st2) (ok : okC (some o) xs st2 = true) : Same (oneH a vs) H2 := by
  simp only [okC] at ok
  split at ok
  · next ys hc =>
    cases eqFls_eq ok
    obtain ⟨ws, h1, h2⟩ := R.s.cell o a (.lst xs) (pre_get p ha) hc
    rw [flats_val rx h2 hf]
    exact oneH_same h1
  · cases ok
theorem lc_core {i : Nat} {cond : Stt → Out Bool} {el : Stt → Out Rv} {σ : L2.St} {H1 Hv : Hp} {Q : VK} {ι1 : List Addr} {Hs1 : Hp} {st1 : Stt} {xs : List D} {vs : List V} {J : It} (o : Option Nat)
    (R1 : Rel T F ι1 Hs1 H1 σ st1) (rx : RpL T Hs1 ι1 vs xs) (Vj : ItV J vs Hv)
    (hv : ∀ (F' : Fr) (ι2 : List Addr) (Hs2 H2 : Hp) (σ2 : L2.St) (st2 : Stt), ι1 <+: ι2 → Same Hs1 Hs2 → Rel T F' ι2 Hs2 H2 σ2 st2 → okC o xs st2 = true → Same Hv H2) (h0 : okC o xs st1 = true)
    (h1 : Post T F W σ (rE T F σ) ι1 Hs1 (match st1.env[i]? with
      | some sl => match isMu sl with
        | true => .bad
        | false => (noX (lcF i (chk o xs cond) (chk o xs el) xs [] st1)).bind fun ys s5 => .ok (.fr ys) { s5 with env := s5.env.set i sl }
      | none => .bad) Q) : ∀ D, H1 D = none → ∃ W : Nat → Nat → Hp → Prop, (∃ m, W 0 m (upd H1 D (.lst []))) ∧ ∀ j m H, W j m H →
      (J.stop j H ∧ Q (.ref D) H) ∨ (J.go j H ∧ ∃ Nx : Hp → Prop, (∀ H', Nx H' → ∃ m', m' < m ∧ W (j + 1) m' H') ∧ ∀ x H', J.yld j H x H' → gName i x (wipe σ [i]) H' fun σ2 H2 => wipe σ2 [i] = wipe σ [i] ∧ TTx T cond σ2 H2 fun b H3 =>
        if b = true then TEx T el σ2 H3 fun y H4 => ∃ acc, H4 D = some (.lst acc) ∧ acc.length < sizeLine ∧ Nx (upd H4 D (.lst (acc ++ [y]))) else Nx H3) := by
  intro L hL
  cases hsl : st1.env[i]? with
  | none => simp only [hsl] at h1; exact h1.elim
  | some sl =>
    simp only [hsl] at h1
    cases hmu : isMu sl with
    | true => rw [hmu] at h1; exact h1.elim
    | false =>
      rw [hmu] at h1
      simp only at h1
      obtain ⟨f1, f2, f3⟩ := R1.s.fresh hL
      have kL : ∀ q ∈ F.kp, q.1 ≠ L := fun q hq z => by
        obtain ⟨k1, _⟩ := R1.s.kept q hq
        rw [z, hL] at k1
        cases k1
      have osl := R1.e.at_ i sl hsl
      have hlen : i < σ.length := by rw [R1.e.len]; exact (List.getElem?_eq_some_iff.mp hsl).1
      -- the state between two turns
      let Pv : Nat → Hp → Prop := fun j H => ∃ ι2 Hs2 st2 acc vacc, ι1 <+: ι2 ∧ Same Hs1 Hs2 ∧ Rel T F ι2 Hs2 H (σ.set i none) (st2.put i .no) ∧ H L = some (.lst vacc) ∧ okC o xs st2 = true ∧ RpL T Hs2 ι2 vacc acc ∧ Hs2 L = none ∧ F.H0 L = none ∧ L ∉ ι2 ∧
        (∀ (m : Nat) (ys : List D), (st2.put i .no).env[m]? = some (Sl.mu ys) → (σ.set i none)[m]? ≠ some (some (V.ref L))) ∧
        Post T F W σ (rE T F σ) ι2 Hs2 ((noX (lcF i (chk o xs cond) (chk o xs el) (xs.drop j) acc st2)).bind fun ys s5 => .ok (.fr ys) { s5 with env := s5.env.set i sl }) Q
      refine lc_any Pv ?_ (fun j H ⟨ι2, Hs2, st2, _, _, p2, e2, R2, _, ok, _⟩ => ⟨Hv, Vj, hv F ι2 Hs2 H _ _ p2 e2 R2 ok⟩) (fun j x H hj ⟨ι2, Hs2, st2, acc, vacc, p2, e2, R2, hD, okc, racc, d1, d2, d3, d4, h2⟩ => ?_) (fun H ⟨ι2, Hs2, st2, acc, vacc, p2, e2, R2, hD, okc, racc, d1, d2, d3, d4, h2⟩ => ?_)
      · have R2 := (R1.setSlot i (s := .no) (o := none) rfl trivial).allocN (o := .lst []) hL
        refine ⟨ι1, Hs1, st1, [], [], List.prefix_refl _, Same.refl _, R2, upd_same, h0, .nil, f1, f2, f3, fun m ys e1 e3 => ?_, by rw [List.drop_zero]; exact h1⟩
        obtain ⟨q, ws, a, _, _, _, b4, _⟩ := R2.e.at_ m _ e1
        rw [e3] at a
        cases a
        have z := (R1.setSlot i (s := .no) (o := none) rfl trivial).e.at_ m _ e1
        obtain ⟨q', ws', a', _, _, _, b4', _⟩ := z
        rw [e3] at a'
        cases a'
        rw [hL] at b4'
        cases b4'
      · -- a turn
        have hjx : j < xs.length := by rw [← rx.length]; exact (List.getElem?_eq_some_iff.mp hj).1
        have hd : xs.drop j = xs[j] :: xs.drop (j + 1) := List.drop_eq_getElem_cons hjx
        obtain ⟨v, hv, rv⟩ := rx.get (List.getElem?_eq_getElem hjx)
        rw [hj] at hv
        cases hv
        rw [hd] at h2
        have R3 := R2.setSlot i (s := .sh xs[j]) (o := some x) rfl ⟨x, rfl, rv.up e2 p2⟩
        rw [Stt.put_put, List.set_set] at R3
        show (wipe ((wipe σ [i]).set i (some x)) [i] = wipe σ [i]) ∧ _
        have ew : wipe σ [i] = σ.set i none := rfl
        refine ⟨by show ((σ.set i none).set i (some x)).set i none = σ.set i none; rw [List.set_set, List.set_set], ?_⟩
        rw [ew, List.set_set]
        have d4' : ∀ (m : Nat) (ys : List D), (st2.put i (.sh xs[j])).env[m]? = some (Sl.mu ys) → (σ.set i (some x))[m]? ≠ some (some (V.ref L)) := fun m ys a1 => by
          have a1 : (st2.env.set i (.sh xs[j]))[m]? = some (Sl.mu ys) := a1
          by_cases e : i = m
          · subst e
            rw [List.getElem?_set_self'] at a1
            cases q : st2.env[i]? with
            | none => rw [q] at a1; cases a1
            | some w => rw [q] at a1; cases a1
          · rw [List.getElem?_set_ne e] at a1 ⊢
            have := d4 m ys (by show (st2.env.set i .no)[m]? = _; rw [List.getElem?_set_ne e]; exact a1)
            rw [List.getElem?_set_ne e] at this
            exact this
        have R4 := R3.keep (o := .lst vacc) hD d1 d2 d3 d4'
        simp only [lcF] at h2
        refine ⟨F.plus L (.lst vacc), ι2, Hs2, _, R4, ?_⟩
        cases ec : cond (st2.put i (.sh xs[j])) with
        | bad => rw [chk_eq, ec] at h2; exact h2.elim
        | exc x s => rw [chk_eq, ec] at h2; exact h2.elim
        | ok b s1 =>
          rw [chk_eq, ec] at h2
          simp only [Out.bind_ok] at h2
          cases ok1 : okC o xs s1 with
          | false => rw [ok1] at h2; exact h2.elim
          | true =>
          rw [ok1] at h2
          simp only [if_true, Out.bind_ok] at h2
          intro ι3 Hs3 H3 b' p3 e3 R5 eb
          cases (show b = b' from eb.symm)
          cases b with
          | false =>
            simp only [Bool.false_eq_true, if_false]
            obtain ⟨R6, g1, g2, g3, g4, g5⟩ := R5.unkeep (o' := .lst vacc) kL
            have eH : upd H3 L (.lst vacc) = H3 := by
              funext z
              by_cases hz : z = L
              · subst hz; rw [upd_same]; exact g5.symm
              · rw [upd_ne hz]
            rw [eH] at R6
            have R7 := R6.setSlot i (s := .no) (o := none) rfl trivial
            rw [List.set_set] at R7
            refine ⟨ι3, Hs3, s1, acc, vacc, p2.trans p3, e2.trans e3, R7, g5, ok1, racc.up e3 p3, g1, g2, g3, fun m ys a1 => ?_, h2.up p3 e3⟩
            have a1 : (s1.env.set i .no)[m]? = some (Sl.mu ys) := a1
            by_cases e : i = m
            · subst e
              rw [List.getElem?_set_self'] at a1
              cases q : s1.env[i]? with
              | none => rw [q] at a1; cases a1
              | some w => rw [q] at a1; cases a1
            · rw [List.getElem?_set_ne e] at a1 ⊢
              have := g4 m ys a1
              rw [List.getElem?_set_ne e] at this
              exact this
          | true =>
            simp only [if_true]
            refine ⟨F.plus L (.lst vacc), ι3, Hs3, s1, R5, ?_⟩
            simp only at h2
            cases ee : el s1 with
            | bad => rw [chk_eq, ee] at h2; exact h2.elim
            | exc x s => rw [chk_eq, ee] at h2; exact h2.elim
            | ok r s2 =>
              rw [chk_eq, ee] at h2
              simp only [Out.bind_ok] at h2
              cases ok2 : okC o xs s2 with
              | false => rw [ok2] at h2; exact h2.elim
              | true =>
              rw [ok2] at h2
              simp only [if_true, Out.bind_ok] at h2
              intro ι4 Hs4 H4 y p4 e4 R6 ry
              unfold capO at h2
              cases ecap : capR r s2 with
              | none => rw [ecap] at h2; exact h2.elim
              | some q =>
                obtain ⟨d, s3⟩ := q
                rw [ecap] at h2
                simp only [Out.bind_ok] at h2
                split at h2
                · next hz =>
                  obtain ⟨Hs5, e5, R7, ry'⟩ := R6.cap ry ecap
                  obtain ⟨R8, g1, g2, g3, g4, g5⟩ := R7.unkeep (o' := .lst (vacc ++ [y])) kL
                  have R9 := R8.setSlot i (s := .no) (o := none) rfl trivial
                  rw [List.set_set] at R9
                  have ea : Same Hs2 Hs5 := e3.trans (e4.trans e5)
                  have pa : ι2 <+: ι4 := p3.trans p4
                  have racc' := racc.up ea pa
                  refine ⟨vacc, g5, by rw [racc'.length, line_eq]; exact hz, ι4, Hs5, s3, acc ++ [d], vacc ++ [y], p2.trans pa, e2.trans ea, R9, upd_same, (by unfold okC at ok2 ⊢; rw [cap_cs ecap]; exact ok2), racc'.app (.cons ry' .nil), g1, g2, g3, fun m ys a1 => ?_, h2.up pa ea⟩
                  have a1 : (s3.env.set i .no)[m]? = some (Sl.mu ys) := a1
                  by_cases e : i = m
                  · subst e
                    rw [List.getElem?_set_self'] at a1
                    cases q : s3.env[i]? with
                    | none => rw [q] at a1; cases a1
                    | some w => rw [q] at a1; cases a1
                  · rw [List.getElem?_set_ne e] at a1 ⊢
                    have := g4 m ys a1
                    rw [List.getElem?_set_ne e] at this
                    exact this
                · exact h2.elim
      · -- the end
        rw [rx.length, List.drop_length] at h2
        simp only [lcF, noX, Out.bind_ok] at h2
        have R3 : Rel T F ι2 Hs2 H ((σ.set i none).set i (σ[i]?.getD none)) ((st2.put i .no).put i sl) := R2.setSlot i hmu (by
          cases sl with
          | no => trivial
          | mu ys => cases hmu
          | sh d =>
            obtain ⟨v, e1, r1⟩ := osl
            exact ⟨v, by rw [e1]; rfl, r1.up e2 p2⟩)
        rw [Stt.put_put, List.set_set] at R3
        have es : σ.set i (σ[i]?.getD none) = σ := by
          rw [List.getElem?_eq_getElem hlen]
          show σ.set i σ[i] = σ
          simp
        rw [es] at R3
        refine h2 ι2 Hs2 H _ (List.prefix_refl _) (Same.refl _) R3 ⟨L, vacc, rfl, d1, d2, d3, hD, racc, fun m ys a1 => ?_, kL⟩
        have a1 : (st2.env.set i sl)[m]? = some (Sl.mu ys) := a1
        by_cases e : i = m
        · subst e
          rw [List.getElem?_set_self'] at a1
          cases q : st2.env[i]? with
          | none => rw [q] at a1; cases a1
          | some w => rw [q] at a1; cases a1; cases hmu
        · rw [List.getElem?_set_ne e] at a1
          have := d4 m ys (by show (st2.env.set i .no)[m]? = _; rw [List.getElem?_set_ne e]; exact a1)
          rw [List.getElem?_set_ne e] at this
          exact this
theorem lc_read {i : Nat} {kd : ItK} {cond : Stt → Out Bool} {el : Stt → Out Rv} {σ : L2.St} {H : Hp} {Q : VK} (hfb : oneOp kd = true → fb = fun st => .ok (.sh .non) st) (h : TE' T F W (lcE i kd fa fb cond el) σ H Q) :
    tLc (walkOf X kd (TE' T F W fa) (TE' T F W fb)) (gName i) (TTx T cond) (TEx T el) [i] σ H Q := by
  obtain ⟨ι0, Hs0, st0, R0, h⟩ := h
  by_cases hl : kd = .lst
  · subst hl
    cases hfb rfl
    have h : Post T F W σ (rE T F σ) ι0 Hs0 ((fa st0).bind fun ra s1 => (capO ra s1).bind fun da s2 => lcK i .lst cond el da .non s2) Q := h
    have one : TE' T F W fa σ H fun v H1 => ∃ ι1 Hs1 st1 d, Rel T F ι1 Hs1 H1 σ st1 ∧ Rp T Hs1 ι1 v d ∧ Post T F W σ (rE T F σ) ι1 Hs1 (lcK i .lst cond el d .non st1) Q :=
      te_bindC R0 (k := fun da s2 => lcK i .lst cond el da .non s2) h fun ι1 Hs1 H1 st1 v d R1 r1 h1 => ⟨ι1, Hs1, st1, d, R1, r1, h1⟩
    obtain ⟨ι0, Hs0, st0, R0, h0⟩ := one
    refine ⟨ι0, Hs0, st0, R0, ?_⟩
    cases e0 : fa st0 with
    | bad => rw [e0] at h0; exact h0
    | exc x s => rw [e0] at h0; exact h0
    | ok r s =>
      rw [e0] at h0
      intro ι' Hs' H' v p1 e1 Rr rr
      obtain ⟨ι1, Hs1, st1, d, R1', r1, hp⟩ := h0 ι' Hs' H' v p1 e1 Rr rr
      cases d with
      | lst ys =>
        cases r1 with
        | lst hl rl =>
          refine ⟨_, rfl, ⟨_, .of (R1'.s.sub _ _ hl)⟩, lc_core (W := W) none R1' rl (itv_list hl) (fun _ _ _ _ _ _ _ e2 R2 _ => e2.trans R2.s.sub) rfl ?_⟩
          have e : lcK i .lst cond el (.lst ys) .non st1 = (match st1.env[i]? with
            | some sl => match isMu sl with
              | true => .bad
              | false => (noX (lcF i (chk none ys cond) (chk none ys el) ys [] st1)).bind fun ys s5 => .ok (.fr ys) { s5 with env := s5.env.set i sl }
            | none => .bad) := by
            show (match iterS .lst (.lst ys) .non st1, st1.env[i]? with
              | some (xs, o), some sl => _
              | _, _ => _) = _
            have e2 : iterS .lst (.lst ys) .non st1 = some (ys, none) := rfl
            rw [e2]
            cases st1.env[i]? <;> rfl
          rw [← e]
          exact hp
      | own n =>
        cases r1 with
        | own ha =>
          cases hc : st1.cs[n]? with
          | none => simp only [lcK, iterS, iterD, hc] at hp; exact hp.elim
          | some c =>
            cases c with
            | ins c fs => simp only [lcK, iterS, iterD, hc] at hp; exact hp.elim
            | lst ys =>
              simp only [lcK, iterS, iterD, hc] at hp
              cases hf : ys.all isFlat with
              | false => rw [hf] at hp; exact hp.elim
              | true =>
                rw [hf] at hp
                simp only [if_true] at hp
                obtain ⟨vs, hh, rl⟩ := R1'.s.cell n _ _ ha hc
                have h00 : okC (some n) ys st1 = true := by
                  simp only [okC, hc]
                  exact eqFls_refl hf
                refine ⟨_, rfl, ⟨_, .of hh⟩, lc_core (W := W) (some n) R1' rl (itv_list (oneH_at _ vs)) (fun _ _ _ _ _ _ p2 _ R2 ok => cel_view ha rl hf p2 R2 ok) h00 ?_⟩
                cases e3 : st1.env[i]? with
                | none => rw [e3] at hp; exact hp
                | some sl => rw [e3] at hp; exact hp
      | _ => exact hp.elim
  · have hn : ∀ da db s, iterS kd da db s = (iterD kd da db).map fun xs => (xs, none) := fun da db s => by
      unfold iterS
      cases iterD kd da db with
      | some xs => rfl
      | none =>
        cases kd <;> first | exact absurd rfl hl | rfl
    refine walk_read kd (st := st0) hfb R0 h (fun da db s e => by simp only [lcK, hn, e, Option.map_none]) fun ι1 Hs1 H1 st1 da db xs vs J R1 hx rx Vj h1 => ?_
    refine lc_core (W := W) none R1 rx Vj (fun _ _ _ _ _ _ _ e2 R2 _ => e2.trans R2.s.sub) rfl ?_
    unfold lcK at h1
    rw [hn, hx] at h1
    cases e3 : st1.env[i]? with
    | none => rw [e3] at h1; exact h1
    | some sl => rw [e3] at h1; exact h1
end
end Lit
end
section
set_option maxHeartbeats 1000000
namespace Lit
open PySem L2 PyProof.Rows
section
variable {T : Tb} {F : Fr} {W : WX} {X : Cx} {P : Pg} {a b c o : Expr} {es : List Expr} {fa fb fo : Stt → Out Rv} {pos apos p p2 : Pos} {k : Nat}
/-- the block's contexts -/
abbrev Blk (X : Cx) (scope : Scope) (B : Cx) : Prop := ∃ (s : Shared) (H : Hp) (C : Addr) (cl : List (Str × Addr)) (fp : List Addr), B = X.blk s H scope (compEnvC scope cl C X.env) fp
theorem pg_blk {i : Nat} {x : Str} {tp : Pos} {scope : Scope} {s : Shared} {H : Hp} {C : Addr} {cl : List (Str × Addr)} {fp : List Addr} (hNd : X.N.Nodup) (hN : X.N[i]? = some x) (hx : scope.names.lookup x = some .local ∨ scope.names.lookup x = some .cell) :
    PG (X.blk s H scope (compEnvC scope cl C X.env) fp) (.Name x tp) (gName i) := by
  rcases hx with hx | hx
  · have e : (relS scope X.env.scope).names.lookup x = some .local := lookup_relS_keep (by decide) hx
    exact pg_name hNd hN (.inl e) (.inr e)
  · have e : (relS scope X.env.scope).names.lookup x = some .cell := lookup_relS_keep (by decide) hx
    exact pg_name hNd hN (.inr e) (.inl (by show (scope.names.lookup x == some .cell) = true; rw [hx]; rfl))
theorem te_lc {i : Nat} {x : Str} {tp : Pos} {elt iter : Expr} {ifs : List Expr} {scope : Scope} {kd : ItK} {cond : Stt → Out Bool} {el : Stt → Out Rv} (hc : X.calm = true) (hNd : X.N.Nodup) (hN : X.N[i]? = some x)
    (hi : PI X (.Name x tp) iter (walkOf X kd (TE' T F W fa) (TE' T F W fb))) (hfb : oneOp kd = true → fb = fun st => .ok (.sh .non) st) (ok : BlkOk X.N X.env.scope scope [(x, i)]) (hx : scope.names.lookup x = some .local ∨ scope.names.lookup x = some .cell)
    (ht : ∀ B, Blk X scope B → ∀ F, PTs B ifs (TT' T F W0 cond)) (he : ∀ B, Blk X scope B → ∀ F, PE B elt (TE' T F W0 el)) (hs : ∀ x, foldedSetIterable iter X.env x = pure x) :
    PE X (.ListComp elt [⟨.Name x tp, iter, ifs, 0⟩] scope pos) (TE' T F W (lcE i kd fa fb cond el)) := by
  refine PE.imp (pe_lc (own := [(x, i)]) hc hNd hi ok (fun s H C cl fp => ?_) (fun s H C cl fp => PTs.ex (ht _ ⟨s, H, C, cl, fp, rfl⟩)) (fun s H C cl fp => PE.ex (he _ ⟨s, H, C, cl, fp, rfl⟩)) hs) fun σ H Q h => lc_read hfb h
  exact pg_blk hNd hN hx
theorem ps_lc {i j : Nat} {x y : Str} {tp py spos : Pos} {elt iter : Expr} {ifs : List Expr} {scope : Scope} {kd : ItK} {cond : Stt → Out Bool} {el : Stt → Out Rv} (hc : X.calm = true) (hNd : X.N.Nodup) (hN : X.N[i]? = some x) (hy : X.N[j]? = some y) (hyl : X.env.scope.names.lookup y = some .local)
    (hsw : swapsWith (.ListComp elt [⟨.Name x tp, iter, ifs, 0⟩] scope pos) (some (.Name y py)) spos.line X.env = pure true)
    (hi : PI X (.Name x tp) iter (walkOf X kd (TE' T F W fa) (TE' T F W fb))) (hfb : oneOp kd = true → fb = fun st => .ok (.sh .non) st) (ok : BlkOk X.N X.env.scope scope [(x, i)]) (hx : scope.names.lookup x = some .local ∨ scope.names.lookup x = some .cell)
    (ht : ∀ B, Blk X scope B → ∀ F, PTs B ifs (TT' T F W0 cond)) (he : ∀ B, Blk X scope B → ∀ F, PE B elt (TE' T F W0 el)) (hs : ∀ x, foldedSetIterable iter X.env x = pure x) :
    PS X (.Assign [.Name y py] (.ListComp elt [⟨.Name x tp, iter, ifs, 0⟩] scope pos) spos) (tAsg (TE' T F W (lcE i kd fa fb cond el)) (gName j)) := by
  have h := ps_setLc (own := [(x, i)]) (g := gName i) (py := py) (pos := pos) (spos := spos) hc hNd hy hyl hsw hi ok (fun s H C cl fp => ?_) (fun s H C cl fp => PTs.ex (ht _ ⟨s, H, C, cl, fp, rfl⟩)) (fun s H C cl fp => PE.ex (he _ ⟨s, H, C, cl, fp, rfl⟩)) hs
  · exact ⟨fun pins s σ H D I z => h.run pins s σ H D I (lc_read hfb z)⟩
  · exact pg_blk hNd hN hx
theorem pts0 {B : Cx} : PTs B [] (TT' T F W fun st => .ok true st) := ⟨fun pins s σ H Q I ⟨ι, Hs, st, R, h⟩ => pts_nil.run pins s σ H Q I (h.done R rfl)⟩
theorem pts1 {B : Cx} {c : Expr} {f : Stt → Out Bool} (h : PT B c (TT' T F W f)) : PTs B [c] (TT' T F W f) := pts_one h
theorem pi_l {tg : Expr} (h : PE X a (TE' T F W fa)) : PI X tg a (walkOf X .lst (TE' T F W fa) (TE' T F W fb)) := pi_list h
theorem pi_t {tg : Expr} (h : PE X a (TE' T F W fa)) : PI X tg a (walkOf X .tup (TE' T F W fa) (TE' T F W fb)) := pi_tup h
theorem pi_s {tg : Expr} (h : PE X a (TE' T F W fa)) : PI X tg a (walkOf X .str (TE' T F W fa) (TE' T F W fb)) := pi_str h
theorem pi_r1 {tg : Expr} (hg : Gl X "range") (hm : X.mg "range" = none) (h : PE X a (TE' T F W fa)) (hs : starEach [a] X.env = (false, eval a X.env) :: starEach [] X.env) : PI X tg (.Call (.Name "range" p) [a] [] pos) (walkOf X .rng1 (TE' T F W fa) (TE' T F W fb)) :=
  pi_range1 hg hm (pa_cons h pa_nil hs) hs
theorem pi_r2 {tg : Expr} (hg : Gl X "range") (hm : X.mg "range" = none) (h : PE X a (TE' T F W fa)) (h2 : PE X b (TE' T F W fb)) (hs : starEach [a, b] X.env = (false, eval a X.env) :: starEach [b] X.env) (hs2 : starEach [b] X.env = (false, eval b X.env) :: starEach [] X.env) :
    PI X tg (.Call (.Name "range" p) [a, b] [] pos) (walkOf X .rng2 (TE' T F W fa) (TE' T F W fb)) :=
  pi_range2 hg hm (pa_cons h (pa_cons h2 pa_nil hs2) hs) (by rw [hs, hs2]; rfl) hs2
end
end Lit
end
section
set_option maxHeartbeats 1000000
namespace Lit
open PySem L2 PyProof.Rows
/-- what a statement's outcome asks of its ends -/
def PostS (T : Tb) (F : Fr) (W : WX) (ι : List Addr) (Hs : Hp) (o : Out Flow') (Z : Ends) : Prop := match o with
  | .ok fl st => ∀ ι' Hs' H' σ', ι <+: ι' → Same Hs Hs' → Rel T F ι' Hs' H' σ' st → match fl with
    | .nx => Z.nx σ' H'
    | .rt d => ∀ v, Rp T Hs' ι' v d → Z.rt v H'
    | .bk => Z.bk σ' H'
    | .ct => Z.ct σ' H'
  | .exc x st => ∀ ι' Hs' H' σ' cls d, ι <+: ι' → Same Hs Hs' → Rel T F ι' Hs' H' σ' st → ExcR T Hs' ι' cls d x → W cls d σ' H'
  | .bad => False
def TS' (T : Tb) (F : Fr) (W : WX) (f : Stt → Out Flow') : TS := fun Z σ H => ∃ ι Hs st, Rel T F ι Hs H σ st ∧ PostS T F W ι Hs (f st) Z
section
variable {T : Tb} {F : Fr} {W : WX} {X : Cx} {P : Pg} {a b c o e : Expr} {es : List Expr} {fa fb fo fe : Stt → Out Rv} {pos apos p p2 : Pos} {k : Nat} {ι ι' : List Addr} {Hs Hs' H : Hp} {st : Stt} {σ : L2.St} {Z : Ends}
theorem PS.imp {s : Stmt} {t t' : TS} (h : PS X s t) (q : ∀ Z σ H, t' Z σ H → t Z σ H) : PS X s t' := ⟨fun pins s σ H Z I z => h.run pins s σ H Z I (q Z σ H z)⟩
theorem PSs.imp {s : List Stmt} {t t' : TS} (h : PSs X s t) (q : ∀ Z σ H, t' Z σ H → t Z σ H) : PSs X s t' := ⟨fun pins s σ H Z I z => h.run pins s σ H Z I (q Z σ H z)⟩
theorem PostS.up {o : Out Flow'} (h : PostS T F W ι Hs o Z) (p : ι <+: ι') (e : Same Hs Hs') : PostS T F W ι' Hs' o Z := by
  cases o with
  | ok a s => exact fun ι2 Hs2 H2 b q1 q2 => h ι2 Hs2 H2 b (p.trans q1) (e.trans q2)
  | exc x s => exact fun ι2 Hs2 H2 b cls d q1 q2 => h ι2 Hs2 H2 b cls d (p.trans q1) (e.trans q2)
  | bad => exact h
/-- an expression, then what follows -/
theorem PostS.first {α β : Type} {rep : L2.St → List Addr → Hp → Hp → Stt → β → α → Prop} {f : Stt → Out α} {k : α → Stt → Out Flow'} {Q1 : β → Hp → Prop}
    (R : Rel T F ι Hs H σ st) (h : PostS T F W ι Hs ((f st).bind k) Z)
    (hk : ∀ ι1 Hs1 H1 st1 b a, ι <+: ι1 → Same Hs Hs1 → Rel T F ι1 Hs1 H1 σ st1 → rep σ ι1 Hs1 H1 st1 b a → PostS T F W ι1 Hs1 (k a st1) Z → Q1 b H1) : Tm T F W rep f σ H Q1 := by
  refine ⟨ι, Hs, st, R, ?_⟩
  cases e : f st with
  | ok a s =>
    rw [e] at h
    exact fun ι1 Hs1 H1 b q1 q2 R1 r => hk ι1 Hs1 H1 s b a q1 q2 R1 r (h.up q1 q2)
  | exc x s =>
    rw [e] at h
    exact fun ι1 Hs1 H1 cls d q1 q2 R1 r => h ι1 Hs1 H1 σ cls d q1 q2 R1 r
  | bad =>
    rw [e] at h
    exact h
/-- .. its value captured -/
theorem PostS.firstC {f : Stt → Out Rv} {k : D → Stt → Out Flow'} {Q1 : VK}
    (R : Rel T F ι Hs H σ st) (h : PostS T F W ι Hs ((f st).bind fun r s => (capO r s).bind k) Z)
    (hk : ∀ ι1 Hs1 H1 st1 v d, ι <+: ι1 → Same Hs Hs1 → Rel T F ι1 Hs1 H1 σ st1 → Rp T Hs1 ι1 v d → PostS T F W ι1 Hs1 (k d st1) Z → Q1 v H1) : TE' T F W f σ H Q1 := by
  refine PostS.first (rep := rE T F) R h fun ι1 Hs1 H1 st1 v r p1 e1 R1 r1 h1 => ?_
  unfold capO at h1
  cases ec : capR r st1 with
  | none => rw [ec] at h1; exact h1.elim
  | some q =>
    obtain ⟨d, s3⟩ := q
    rw [ec] at h1
    obtain ⟨Hs2, e2, R2, r2⟩ := R1.cap r1 ec
    exact hk ι1 Hs2 H1 s3 v d p1 (e1.trans e2) R2 r2 (h1.up (List.prefix_refl _) e2)
theorem PostS.next (h : PostS T F W ι Hs (.ok .nx st) Z) (R : Rel T F ι Hs H σ st) : Z.nx σ H := h ι Hs H σ (List.prefix_refl _) (Same.refl _) R
theorem ts_nil : PSs X [] (TS' T F W fun st => .ok .nx st) := PSs.imp pss_nil fun Z σ H ⟨ι, Hs, st, R, h⟩ => h.next R
def seqF (f g : Stt → Out Flow') (st : Stt) : Out Flow' := (f st).bind fun fl s1 => match fl with
    | .nx => g s1
    | fl => .ok fl s1
theorem ts_cons {s : Stmt} {ss : List Stmt} {f g : Stt → Out Flow'} (h1 : PS X s (TS' T F W f)) (h2 : PSs X ss (TS' T F W g)) : PSs X (s :: ss) (TS' T F W (seqF f g)) :=
  PSs.imp (pss_cons h1 h2) fun Z σ H ⟨ι, Hs, st, R, h⟩ => by
    refine ⟨ι, Hs, st, R, ?_⟩
    unfold seqF at h
    cases e : f st with
    | bad => rw [e] at h; exact h
    | exc x s => rw [e] at h; exact h
    | ok fl s =>
      rw [e] at h
      cases fl with
      | nx => exact fun ι' Hs' H' σ' p e R' => ⟨ι', Hs', s, R', PostS.up h p e⟩
      | rt d => exact h
      | bk => exact h
      | ct => exact h
theorem ts_pass : PS X (.Pass pos) (TS' T F W fun st => .ok .nx st) := PS.imp ps_pass fun Z σ H ⟨ι, Hs, st, R, h⟩ => h.next R
theorem ts_doc {x j pos pos'} : PS X (.Expr (.Constant (.str x) j pos) pos') (TS' T F W fun st => .ok .nx st) := PS.imp ps_doc fun Z σ H ⟨ι, Hs, st, R, h⟩ => h.next R
theorem ts_brk : PS X (.Break pos) (TS' T F W fun st => .ok .bk st) := PS.imp ps_break fun Z σ H ⟨ι, Hs, st, R, h⟩ => h ι Hs H σ (List.prefix_refl _) (Same.refl _) R
theorem ts_cont : PS X (.Continue pos) (TS' T F W fun st => .ok .ct st) := PS.imp ps_continue fun Z σ H ⟨ι, Hs, st, R, h⟩ => h ι Hs H σ (List.prefix_refl _) (Same.refl _) R
theorem ts_expr (he : PE X e (TE' T F W fe)) (hs : swapsWith e none pos.line X.env = pure false) : PS X (.Expr e pos) (TS' T F W fun st => (fe st).bind fun _ s => .ok .nx s) :=
  PS.imp (ps_expr he hs) fun Z σ H ⟨ι, Hs, st, R, h⟩ => PostS.first (rep := rE T F) R h fun ι1 Hs1 H1 st1 v r p1 e1 R1 r1 h1 => h1.next R1
theorem ts_ret (he : PE X e (TE' T F W fe)) : PS X (.Return (some e) pos) (TS' T F W fun st => (fe st).bind fun r s => (capO r s).bind fun d s1 => .ok (.rt d) s1) :=
  PS.imp (ps_ret he) fun Z σ H ⟨ι, Hs, st, R, h⟩ => PostS.firstC R h fun ι1 Hs1 H1 st1 v d p1 e1 R1 r1 h1 => h1 ι1 Hs1 H1 σ (List.prefix_refl _) (Same.refl _) R1 v r1
theorem ts_ret0 : PS X (.Return none pos) (TS' T F W fun st => .ok (.rt .non) st) :=
  PS.imp ps_retN fun Z σ H ⟨ι, Hs, st, R, h⟩ => h ι Hs H σ (List.prefix_refl _) (Same.refl _) R .non .non
theorem ts_if {sa sb : List Stmt} {fc : Stt → Out Bool} {f g : Stt → Out Flow'} (hc : PT X c (TT' T F W fc)) (ha : PSs X sa (TS' T F W f)) (hb : PSs X sb (TS' T F W g)) :
    PS X (.If c sa sb pos) (TS' T F W fun st => (fc st).bind fun t s1 => match t with
      | true => f s1
      | false => g s1) :=
  PS.imp (ps_if hc ha hb) fun Z σ H ⟨ι, Hs, st, R, h⟩ => PostS.first (rep := rB) R h fun ι1 Hs1 H1 st1 b t p1 e1 R1 r1 h1 => by
    cases (show b = t from r1)
    cases b with
    | true => exact ⟨ι1, Hs1, st1, R1, h1⟩
    | false => exact ⟨ι1, Hs1, st1, R1, h1⟩
/-- a slot's value becomes a list of its own -/
theorem Rel.setMu (R : Rel T F ι Hs H σ st) (i : Nat) {q : Addr} {vs : List V} {xs : List D} (h1 : Hs q = none) (h2 : F.H0 q = none) (h3 : q ∉ ι) (h4 : H q = some (.lst vs)) (r : RpL T Hs ι vs xs)
    (h5 : ∀ (m : Nat) (ys : List D), st.env[m]? = some (Sl.mu ys) → σ[m]? ≠ some (some (V.ref q))) (h6 : ∀ z ∈ F.kp, z.1 ≠ q) : Rel T F ι Hs H (σ.set i (some (.ref q))) (st.put i (.mu xs)) := by
  have old : ∀ {j : Nat} {ys : List D}, j ≠ i → (st.env.set i (.mu xs))[j]? = some (.mu ys) → st.env[j]? = some (.mu ys) := fun {j ys} hne hj => by
    rwa [List.getElem?_set_ne (Ne.symm hne)] at hj
  have lt : ∀ {j : Nat} {ys : List D}, (st.env.set i (.mu xs))[j]? = some (.mu ys) → j < st.env.length := fun {j ys} hj => by
    have := (List.getElem?_eq_some_iff.mp hj).1
    rwa [List.length_set] at this
  refine ⟨R.s, ⟨by show (σ.set i _).length = (st.env.set i _).length; rw [List.length_set, List.length_set]; exact R.e.len, fun j t hj => ?_, fun j k ys zs w a1 a2 b1 b2 => ?_, fun z hz j ys a1 => ?_⟩⟩
  · have hj : (st.env.set i (.mu xs))[j]? = some t := hj
    by_cases e : i = j
    · subst e
      have hlt : i < st.env.length := by
        have := (List.getElem?_eq_some_iff.mp hj).1
        rwa [List.length_set] at this
      rw [List.getElem?_set_self hlt] at hj
      cases hj
      rw [List.getElem?_set_self (by rw [R.e.len]; exact hlt)]
      exact ⟨q, vs, rfl, h1, h2, h3, h4, r⟩
    · rw [List.getElem?_set_ne e] at hj
      rw [List.getElem?_set_ne e]
      exact R.e.at_ j t hj
  · have a1 : (st.env.set i (.mu xs))[j]? = some (.mu ys) := a1
    have a2 : (st.env.set i (.mu xs))[k]? = some (.mu zs) := a2
    by_cases e1 : j = i
    · by_cases e2 : k = i
      · rw [e1, e2]
      · rw [e1, List.getElem?_set_self (by rw [R.e.len]; exact e1 ▸ lt a1)] at b1
        cases b1
        rw [List.getElem?_set_ne (Ne.symm e2)] at b2
        exact absurd b2 (h5 k zs (old e2 a2))
    · by_cases e2 : k = i
      · rw [e2, List.getElem?_set_self (by rw [R.e.len]; exact e2 ▸ lt a2)] at b2
        cases b2
        rw [List.getElem?_set_ne (Ne.symm e1)] at b1
        exact absurd b1 (h5 j ys (old e1 a1))
      · rw [List.getElem?_set_ne (Ne.symm e1)] at b1
        rw [List.getElem?_set_ne (Ne.symm e2)] at b2
        exact R.e.dj j k ys zs w (old e1 a1) (old e2 a2) b1 b2
  · have a1 : (st.env.set i (.mu xs))[j]? = some (.mu ys) := a1
    by_cases e1 : j = i
    · rw [e1, List.getElem?_set_self (by rw [R.e.len]; exact e1 ▸ lt a1)]
      intro w
      injection w with w
      injection w with w
      injection w with w
      exact h6 z hz w.symm
    · rw [List.getElem?_set_ne (Ne.symm e1)]
      exact R.e.kp z hz j ys (old e1 a1)
/-- i = .. -/
def asgF (i : Nat) (fe : Stt → Out Rv) (st : Stt) : Out Flow' := (fe st).bind fun r s => match slOf r s with
    | some (sl, s1) => if i < s1.env.length then .ok .nx (s1.put i sl) else .bad
    | none => .bad
theorem asg_read {i : Nat} (R : Rel T F ι Hs H σ st) (h : PostS T F W ι Hs (asgF i fe st) Z) : tAsg (TE' T F W fe) (gName i) Z σ H := by
  refine PostS.first (rep := rE T F) R h fun ι1 Hs1 H1 st1 v r p1 e1 R1 r1 h1 => ?_
  show Z.nx (σ.set i (some v)) H1
  cases r with
  | fr xs =>
    simp only [slOf] at h1
    split at h1
    · obtain ⟨q, vs, rfl, a1, a2, a3, a4, a5, a6, a7⟩ := r1
      exact h1.next (R1.setMu i a1 a2 a3 a4 a5 a6 a7)
    · exact h1.elim
  | sh d =>
    simp only [slOf, capR, Option.map] at h1
    split at h1
    · exact h1.next (R1.setSlot i rfl ⟨v, rfl, r1⟩)
    · exact h1.elim
  | rf j =>
    simp only [slOf] at h1
    cases ec : capR (.rf j) st1 with
    | none => simp only [ec, Option.map] at h1; exact h1.elim
    | some q =>
      obtain ⟨d, s3⟩ := q
      simp only [ec, Option.map] at h1
      split at h1
      · obtain ⟨Hs2, e2, R2, r2⟩ := R1.cap r1 ec
        exact (h1.up (List.prefix_refl _) e2).next (R2.setSlot i rfl ⟨v, rfl, r2⟩)
      · exact h1.elim
theorem ts_asg {i : Nat} {x : Str} (hNd : X.N.Nodup) (hN : X.N[i]? = some x) (hx : L2.Loc X.env.scope x) (hf : X.fn x = true ∨ X.env.scope.names.lookup x = some .local) (he : PE X e (TE' T F W fe)) (hs : swapsWith e (some (.Name x p)) pos.line X.env = pure false) :
    PS X (.Assign [.Name x p] e pos) (TS' T F W (asgF i fe)) :=
  PS.imp (ps_set hNd hN hx he hs hf) fun Z σ H ⟨ι, Hs, st, R, h⟩ => asg_read R h
theorem ts_asgL {i : Nat} {s : Stmt} (h : PS X s (tAsg (TE' T F W fe) (gName i))) : PS X s (TS' T F W (asgF i fe)) :=
  PS.imp h fun Z σ H ⟨ι, Hs, st, R, h⟩ => asg_read R h
/-- i += .. -/
def augF (i : Nat) (o : Operator) (fe : Stt → Out Rv) (st : Stt) : Out Flow' := match st.env[i]? with
    | some (.sh (.int a)) => (fe st).bind fun r s => match view s r, o with
      | some (.int b), .Add => .ok .nx (s.put i (.sh (.int (a + b))))
      | some (.int b), .Sub => .ok .nx (s.put i (.sh (.int (a - b))))
      | _, _ => .bad
    | _ => .bad
theorem ts_aug {i : Nat} {x : Str} {op : Operator} (hNd : X.N.Nodup) (hN : X.N[i]? = some x) (hx : L2.Loc X.env.scope x) (hf : X.fn x = true ∨ X.env.scope.names.lookup x = some .local) (he : PE X e (TE' T F W fe)) (ho : op = .Add ∨ op = .Sub) :
    PS X (.AugAssign (.Name x p) op e pos) (TS' T F W (augF i op fe)) := by
  have run : ∀ (f : Int → Int → Int), (∀ r s (a : Int), (match view s r, op with
      | some (.int b), .Add => (.ok .nx (s.put i (.sh (.int (a + b)))) : Out Flow')
      | some (.int b), .Sub => .ok .nx (s.put i (.sh (.int (a - b))))
      | _, _ => .bad) = match view s r with
        | some (.int b) => .ok .nx (s.put i (.sh (.int (f a b))))
        | _ => .bad) → PIp X op (ipI f) → PS X (.AugAssign (.Name x p) op e pos) (TS' T F W (augF i op fe)) := by
    intro f hf' hop
    refine PS.imp (ps_aug hNd hN hx he hop hf) fun Z σ H ⟨ι, Hs, st, R, h⟩ => ?_
    unfold augF at h
    split at h
    · next a hi =>
      obtain ⟨v, e1, r1⟩ := R.e.at_ i _ hi
      cases r1
      refine ⟨_, e1, ?_⟩
      refine PostS.first (rep := rE T F) R h fun ι1 Hs1 H1 st1 v r p1 e1 R1 r1 h1 => ?_
      rw [hf'] at h1
      split at h1
      · next b hv =>
        have rv := R1.view r1 hv
        cases rv.int
        exact ⟨a, b, rfl, rfl, h1.next (R1.setSlot i rfl ⟨_, rfl, .int _⟩)⟩
      · exact h1.elim
    · exact h.elim
  rcases ho with rfl | rfl
  · refine run (fun i j => i + j) (fun r s a => ?_) ip_add
    split
    · next e1 e2 => simp only [e1]
    · next e1 e2 => cases e2
    · next h1 h2 => split
                    · next e1 => exact absurd rfl (h1 _ e1)
                    · rfl
  · refine run (fun i j => i - j) (fun r s a => ?_) ip_sub
    split
    · next e1 e2 => cases e2
    · next e1 e2 => simp only [e1]
    · next h1 h2 => split
                    · next e1 => exact absurd rfl (h2 _ e1)
                    · rfl
end
end Lit
end
section
set_option maxHeartbeats 1000000
namespace Lit
open PySem L2 PyProof.Rows
section
variable {T : Tb} {F : Fr} {W : WX} {X : Cx} {P : Pg} {a b c o e : Expr} {es : List Expr} {fa fb fo fe fi : Stt → Out Rv} {pos apos p p2 : Pos} {k : Nat} {ι ι' : List Addr} {Hs Hs' H : Hp} {st : Stt} {σ : L2.St} {Z : Ends}
/-- a cell's object changes -/
theorem Rel.cellSet (Q : Rel T F ι Hs H σ st) {n : Nat} {a : Addr} {c : Cell} {o : HO} (hi : ι[n]? = some a) (hn : n < st.cs.length) (hc : CellR T Hs (upd H a o) ι a c) : Rel T F ι Hs (upd H a o) σ { st with cs := st.cs.set n c } := by
  have hm : a ∈ ι := List.mem_of_getElem? hi
  have hno := Q.s.io a hm
  refine ⟨⟨fun b u q => ?_, Q.s.pre, fun b u q hb => ?_, Q.s.f2, Q.s.grow, Q.s.inj, Q.s.io, Q.s.inew, by rw [Q.s.len]; exact (List.length_set ..).symm, fun m b c' m1 m2 => ?_, fun q hq => ?_⟩, Q.e.rest fun i zs hz hs => ?_⟩
  · rw [upd_ne (fun z : b = a => by rw [z, hno] at q; cases q)]; exact Q.s.sub b u q
  · rw [upd_ne (fun z : b = a => ?_)]
    · exact Q.s.f1 b u q hb
    · subst z
      rcases Q.s.inew b hm with z | z
      · exact hb z
      · rw [q] at z; cases z
  · by_cases hmn : m = n
    · subst hmn
      rw [hi] at m1
      cases m1
      have e2' : (st.cs.set m c)[m]? = some c' := m2
      rw [List.getElem?_set_self hn] at e2'
      cases e2'
      exact hc
    · have e2' : (st.cs.set n c)[m]? = some c' := m2
      rw [List.getElem?_set_ne (Ne.symm hmn)] at e2'
      have hba : b ≠ a := fun z => by
        subst z
        exact hmn (nodup_get Q.s.inj m1 hi)
      exact (Q.s.cell m b c' m1 e2').up (Same.refl _) (List.prefix_refl _) (upd_ne hba)
  · obtain ⟨k1, k2, k3, k4⟩ := Q.s.kept q hq
    exact ⟨by rw [upd_ne (fun z : q.1 = a => k4 (z ▸ hm))]; exact k1, k2, k3, k4⟩
  · obtain ⟨q, ws, a1, b1, b2, b3, b4, _⟩ := Q.e.at_ i _ hz
    rw [hs] at a1
    cases a1
    exact b3 hm
theorem fdp_put {f : Str} {y : V} {d : D} (r : Rp T Hs ι y d) : ∀ {gs : List (Str × V)} {fs : List (Str × D)}, FdP T Hs ι gs fs → FdP T Hs ι (putF f y gs) (putD f d fs) ∧ gs.length = fs.length
  | _, _, .nil => ⟨.cons ⟨rfl, r⟩ .nil, rfl⟩
  | (g, v) :: gs, (g', e) :: fs, .cons ⟨h1, h2⟩ h3 => by
    cases (show g = g' from h1)
    obtain ⟨i1, i2⟩ := fdp_put r h3
    refine ⟨?_, by simp [i2]⟩
    unfold putF putD
    by_cases hq : g = f
    · simp only [hq, beq_self_eq_true, if_true]
      exact .cons ⟨rfl, r⟩ h3
    · have hb : (g == f) = false := by simpa using hq
      simp only [hb, hq, if_false, Bool.false_eq_true]
      exact .cons ⟨rfl, h2⟩ i1
/-- o.f = e -/
def setfF (P : Pg) (f : Str) (fo fe : Stt → Out Rv) (st : Stt) : Out Flow' := (fe st).bind fun r s => (capO r s).bind fun d s1 => (fo s1).bind fun ro s2 => match view s2 ro with
    | some (.own n) => match s2.cs[n]? with
      | some (.ins c fs) => if fs.length < 100 ∧ (P.fld c).contains f = true then .ok .nx { s2 with cs := s2.cs.set n (.ins c (putD f d fs)) } else .bad
      | _ => .bad
    | _ => .bad
theorem ts_setf {f : Str} (S : SF T P X.mg) (hK : X.K = T.K) (ho : PE X o (TE' T F W fo)) (he : PE X e (TE' T F W fe)) (hs : swapsWith e (some (.Attribute o f p)) pos.line X.env = pure false) :
    PS X (.Assign [.Attribute o f p] e pos) (TS' T F W (setfF P f fo fe)) :=
  PS.imp (ps_fld ho he hs) fun Z σ H ⟨ι, Hs, st, R, h⟩ => PostS.firstC R h fun ι1 Hs1 H1 st1 y d p1 e1 R1 r1 h1 => PostS.first (rep := rE T F) R1 h1 fun ι2 Hs2 H2 st2 v r p2 e2 R2 r2 h2 => by
    split at h2
    · next n e =>
      split at h2
      · next c fs hc =>
        split at h2
        · next hz =>
          have hkc := S.fisk c f hz.2
          cases (show Rp T Hs2 ι2 v (.own n) from R2.view r2 e) with
          | own hi =>
            obtain ⟨dx, gs, hg, fp⟩ := R2.s.cell n _ _ hi hc
            obtain ⟨q1, q2⟩ := fdp_put (f := f) (r1.up e2 p2) fp
            refine ⟨_, _, _, _, rfl, hg, by rw [hK]; exact S.cls c hkc, by rw [hK]; exact S.nat_ c f hkc (by simpa using hz.2), by omega, ?_⟩
            exact h2.next (R2.cellSet hi (List.getElem?_eq_some_iff.mp hc).1 ⟨dx, _, upd_same, q1⟩)
        · exact h2.elim
      · exact h2.elim
    · exact h2.elim
/-- o[i] = e -/
def setixF (fo fi fe : Stt → Out Rv) (st : Stt) : Out Flow' := (fe st).bind fun r s => (capO r s).bind fun d s1 => (fo s1).bind fun ro s2 => (fi s2).bind fun ri s3 => match locR (setl ro) s3, view s3 ri with
    | some (l, xs), some (.int j) => match ixN xs.length j with
      | some n => .ok .nx (setLoc l (xs.set n d) s3)
      | none => .bad
    | _, _ => .bad
theorem ts_setix (ho : PE X o (TE' T F W fo)) (hi : PE X a (TE' T F W fi)) (he : PE X e (TE' T F W fe)) (hs : swapsWithSole [.Subscript o a p] e pos.line X.env = pure false) (hw : swappedStores [.Subscript o a p] e X.env = pure none)
    (ha : ∀ v, assign (.Subscript o a p) X.env v = (do
      let ov ← holding [v] (eval o X.env)
      let iv ← holding [v, ov] (eval a X.env)
      standAt p
      holding [v, ov, iv] (setItem ov iv v)
      release [v, ov, iv] [])) :
    PS X (.Assign [.Subscript o a p] e pos) (TS' T F W (setixF fo fi fe)) :=
  PS.imp (ps_asg he (pg_sub ho hi set_list ha) hs hw) fun Z σ H ⟨ι, Hs, st, R, h⟩ => PostS.firstC R h fun ι1 Hs1 H1 st1 y d p1 e1 R1 r1 h1 =>
    PostS.first (rep := rE T F) R1 h1 fun ι2 Hs2 H2 st2 v r p2 e2 R2 r2 h2 => by
      obtain ⟨Hs2', e2', R2', r2'⟩ := R2.settle r2
      refine PostS.first (rep := rE T F) R2' (h2.up (List.prefix_refl _) e2') fun ι3 Hs3 H3 st3 w q p3 e3 R3 r3 h3 => ?_
      have q1 : RpR T F ι3 Hs3 H3 σ st3 v (setl r) := RpR.stay r2' p3 e3
      split at h3
      · next l xs j hl hv =>
        split at h3
        · next n hn =>
          cases (R3.view r3 hv).int
          obtain ⟨q, vs, rfl, hq, rv, put⟩ := R3.loc q1 hl
          refine ⟨q, vs, j, n, rfl, rfl, hq, by rw [rv.length]; exact hn, ?_⟩
          exact h3.next (put _ _ (rv.set n (r1.up (e2.trans (e2'.trans e3)) (p2.trans p3))))
        · exact h3.elim
      · exact h3.elim
/-- a, b, .. = e -/
def asgTF (is : List Nat) (fe : Stt → Out Rv) (st : Stt) : Out Flow' := (fe st).bind fun r s => match view s r with
    | some (.tup ds) => match putAll is ds s with
      | some s1 => .ok .nx s1
      | none => .bad
    | _ => .bad
/-- the targets' names -/
inductive TgN (X : Cx) : List Nat → List Expr → Prop where
  | nil : TgN X [] []
  | cons {i : Nat} {x : Str} {p : Pos} {is : List Nat} {ts : List Expr} (hN : X.N[i]? = some x) (hx : L2.Loc X.env.scope x) (hf : X.fn x = true ∨ X.env.scope.names.lookup x = some .local)
      (hs : (assignEach (.Name x p :: ts) X.env).map (·.2) = assign (.Name x p) X.env :: (assignEach ts X.env).map (·.2)) (r : TgN X is ts) : TgN X (i :: is) (.Name x p :: ts)
def gAll : List Nat → TGs
  | [] => gNil
  | i :: is => gCons (gName i) (gAll is)
theorem pgs_all (hNd : X.N.Nodup) {is : List Nat} {ts : List Expr} (h : TgN X is ts) : PGs X ts (gAll is) := by
  induction h with
  | nil => exact pgs_nil
  | cons hN hx hf hs _ ih => exact pgs_cons (pg_name hNd hN hx hf) ih hs
theorem gAll_put : ∀ {is : List Nat} {ds : List D} {vs : List V} {σ : L2.St} {st st' : Stt} {Q : L2.St → Hp → Prop}, Rel T F ι Hs H σ st → RpL T Hs ι vs ds → putAll is ds st = some st' → (∀ σ', Rel T F ι Hs H σ' st' → Q σ' H) → gAll is vs σ H Q
  | [], [], _, σ, st, st', Q, R, .nil, h, q => by cases h; exact ⟨rfl, q _ R⟩
  | [], _ :: _, _, _, _, _, _, _, _, h, _ => by cases h
  | _ :: _, [], _, _, _, _, _, _, _, h, _ => by cases h
  | i :: is, d :: ds, _, σ, st, st', Q, R, .cons r rs, h, q => by
    refine ⟨_, _, rfl, ?_⟩
    exact gAll_put (R.setSlot i (s := .sh d) rfl ⟨_, rfl, r⟩) rs h q
theorem ts_asgT {is : List Nat} {ts : List Expr} {kk : Nat} (hc : X.calm = true) (hK : X.K = T.K) (hNd : X.N.Nodup) (ht : TgN X is ts) (he : PE X e (TE' T F W fe)) (hs : swapsWithSole [.Tuple ts kk p] e pos.line X.env = pure false) (hw : swappedStores [.Tuple ts kk p] e X.env = pure none)
    (hn : (assignEach ts X.env).length = is.length) (hst : (assignEach ts X.env).findIdx? (·.1) = none) (h1 : (assignEach [.Tuple ts kk p] X.env).map (·.2) = [assign (.Tuple ts kk p) X.env]) :
    PS X (.Assign [.Tuple ts kk p] e pos) (TS' T F W (asgTF is fe)) :=
  PS.imp (ps_asg he (pg_tup hc (pgs_all hNd ht) hn hst) hs hw h1) fun Z σ H ⟨ι, Hs, st, R, h⟩ => PostS.first (rep := rE T F) R h fun ι1 Hs1 H1 st1 v r p1 e1 R1 r1 h2 => by
    split at h2
    · next ds hv =>
      split at h2
      · next s1 hp =>
        obtain ⟨q, vs, rfl, hq, rv⟩ := (R1.view r1 hv).tup
        have hlen : ∀ {is : List Nat} {ds : List D} {s s' : Stt}, putAll is ds s = some s' → ds.length = is.length := by
          intro is
          induction is with
          | nil => intro ds s s' h; cases ds with
                   | nil => rfl
                   | cons _ _ => cases h
          | cons i is ih => intro ds s s' h; cases ds with
                            | nil => cases h
                            | cons d ds => simp [ih (show putAll is ds _ = some s' from h)]
        refine ⟨q, vs, rfl, .of (R1.s.sub _ _ hq), by rw [rv.length]; exact hlen hp, ?_⟩
        exact gAll_put R1 rv hp fun σ' R' => h2.next R'
      · exact h2.elim
    · exact h2.elim
/-- i, j = a, b -/
def asgPF (i j : Nat) (g : Stt → Out (List D)) (st : Stt) : Out Flow' := (g st).bind fun ds s => match ds with
    | [d, e] => .ok .nx ((s.put i (.sh d)).put j (.sh e))
    | _ => .bad
theorem ts_asgP {i j : Nat} {x y : Str} {px py pt pt2 : Pos} {kt k2 : Nat} {g : Stt → Out (List D)} (hc : X.calm = true) (hNd : X.N.Nodup) (hi : X.N[i]? = some x) (hj : X.N[j]? = some y) (hij : i ≠ j)
    (hx : X.env.scope.names.lookup x = some .local) (hy : X.env.scope.names.lookup y = some .local) (ha : PA X [a, b] (TA' T F W g))
    (hw : swappedStores [.Tuple [.Name x px, .Name y py] kt pt] (.Tuple [a, b] k2 pt2) X.env = pure (some [x, y]))
    (hs : swapsWithSole [.Tuple [.Name x px, .Name y py] kt pt] (.Tuple [a, b] k2 pt2) pos.line X.env = pure false) :
    PS X (.Assign [.Tuple [.Name x px, .Name y py] kt pt] (.Tuple [a, b] k2 pt2) pos) (TS' T F W (asgPF i j g)) :=
  PS.imp (ps_par hc hNd hi hj hij hx hy ha hw hs) fun Z σ H ⟨ι, Hs, st, R, h⟩ => PostS.first (rep := rA T) R h fun ι1 Hs1 H1 st1 v r p1 e1 R1 r1 h2 => by
    split at h2
    · cases r1 with
      | cons a1 r1 => cases r1 with
        | cons a2 r1 => cases r1 with
          | nil => exact ⟨_, _, rfl, h2.next ((R1.setSlot i (s := .sh _) rfl ⟨_, rfl, a1⟩).setSlot j (s := .sh _) rfl ⟨_, rfl, a2⟩)⟩
    · exact h2.elim
def whileF (n : Nat) (fc : Stt → Out Bool) (fb : Stt → Out Flow') (st : Stt) : Out Flow' := whlF fc fb n st
theorem ts_while {n : Nat} {body : List Stmt} {fc : Stt → Out Bool} {g : Stt → Out Flow'} (hp : PassesOwn (model X.prog X.w) X.A X.env X.xe) (hc : PT X c (TT' T F W fc)) (hb : PSs X body (TS' T F W g)) :
    PS X (.While c body [] pos) (TS' T F W (whlF fc g n)) :=
  PS.imp (ps_while hp hc hb) fun Z σ H ⟨ι, Hs, st, R, h⟩ => by
    refine ⟨fun m σ H => ∃ ι Hs st, Rel T F ι Hs H σ st ∧ PostS T F W ι Hs (whlF fc g m st) Z, ⟨n, ι, Hs, st, R, h⟩, ?_⟩
    rintro m σ1 H1 ⟨ι1, Hs1, st1, R1, h1⟩
    cases m with
    | zero => exact h1.elim
    | succ m =>
      refine PostS.first (rep := rB) R1 h1 fun ι2 Hs2 H2 st2 b t p2 e2 R2 r2 h2 => ?_
      cases (show b = t from r2)
      cases b with
      | false => exact h2.next R2
      | true =>
        refine ⟨fun σ H => ∃ ι Hs st, Rel T F ι Hs H σ st ∧ PostS T F W ι Hs (whlF fc g m st) Z, fun σ' H' z => ⟨m, Nat.lt_succ_self _, z⟩, ι2, Hs2, st2, R2, ?_⟩
        simp only at h2
        cases e : g st2 with
        | bad => rw [e] at h2; exact h2
        | exc x s => rw [e] at h2; exact h2
        | ok fl s =>
          rw [e] at h2
          cases fl with
          | nx => exact fun ι' Hs' H' σ' p e R' => ⟨ι', Hs', s, R', PostS.up h2 p e⟩
          | ct => exact fun ι' Hs' H' σ' p e R' => ⟨ι', Hs', s, R', PostS.up h2 p e⟩
          | bk => exact fun ι' Hs' H' σ' p e R' => h2 ι' Hs' H' σ' p e R'
          | rt d => exact h2
/-- for i in .. -/
def walkB (kd : ItK) (fa fb : Stt → Out Rv) (st : Stt) : Out (List D) := (fa st).bind fun ra s1 => (capO ra s1).bind fun da s2 => (fb s2).bind fun rb s3 => (capO rb s3).bind fun db s4 => match iterD kd da db with
    | some xs => .ok xs s4
    | none => .bad
def forFF (i : Nat) (kd : ItK) (fa fb : Stt → Out Rv) (g : Stt → Out Flow') (st : Stt) : Out Flow' := (walkB kd fa fb st).bind fun xs s => forF i g xs s
/-- a Post from a PostS -/
theorem PostS.toPost {γ : Type} {o : Out γ} {k : γ → Stt → Out Flow'} (h : PostS T F W ι Hs (o.bind k) Z) :
    Post T F W σ (fun ι1 Hs1 _ st1 (b : List Addr × Hp × Stt × γ) a => b = (ι1, Hs1, st1, a)) ι Hs o (fun b _ => PostS T F W b.1 b.2.1 (k b.2.2.2 b.2.2.1) Z) := by
  cases o with
  | ok a s => rintro ι' Hs' H' b p e R rfl; exact PostS.up h p e
  | exc x s => exact fun ι1 Hs1 H1 cls d q1 q2 R1 r => h ι1 Hs1 H1 σ cls d q1 q2 R1 r
  | bad => exact h
theorem ts_for {i : Nat} {x : Str} {tp : Pos} {iter : Expr} {body : List Stmt} {kd : ItK} {g : Stt → Out Flow'} (hp : PassesOwn (model X.prog X.w) X.A X.env X.xe) (hc : X.calm = true) (hNd : X.N.Nodup) (hN : X.N[i]? = some x) (hx : L2.Loc X.env.scope x) (hf : X.fn x = true ∨ X.env.scope.names.lookup x = some .local)
    (hi : PI X (.Name x tp) iter (walkOf X kd (TE' T F W fa) (TE' T F W fb))) (hfb : oneOp kd = true → fb = fun st => .ok (.sh .non) st) (hb : PSs X body (TS' T F W g)) (hs : ∀ x, foldedSetIterable iter X.env x = pure x) :
    PS X (.For (.Name x tp) iter body [] pos) (TS' T F W (forFF i kd fa fb g)) :=
  PS.imp (ps_for hp hc hi (pg_name hNd hN hx hf) hb hs) fun Z σ H ⟨ι, Hs, st, R, h⟩ => by
    refine walk_read kd hfb R (PostS.toPost h) (fun da db s e => by simp only [e]) fun ι1 Hs1 H1 st1 da db xs vs J R1 hit rx hJ h1 => ?_
    rw [hit] at h1
    have h1 : PostS T F W ι1 Hs1 (forF i g xs st1) Z := h1 ι1 Hs1 H1 (ι1, Hs1, st1, xs) (List.prefix_refl _) (Same.refl _) R1 rfl
    refine ⟨fun j m σ H => m = vs.length - j ∧ j ≤ vs.length ∧ ∃ ι2 Hs2 st2, ι1 <+: ι2 ∧ Same Hs1 Hs2 ∧ Rel T F ι2 Hs2 H σ st2 ∧ PostS T F W ι2 Hs2 (forF i g (xs.drop j) st2) Z, ⟨vs.length, rfl, Nat.zero_le _, ι1, Hs1, st1, List.prefix_refl _, Same.refl _, R1, h1⟩, ?_⟩
    rintro j m σ2 H2 ⟨rfl, hj, ι2, Hs2, st2, p2, e2, R2, h2⟩
    have hJ2 := hJ.up e2
    by_cases hlt : j < vs.length
    · refine .inr ⟨hJ2.go j H2 R2.s.sub hlt, fun σ H => ∃ ι3 Hs3 st3, ι1 <+: ι3 ∧ Same Hs1 Hs3 ∧ Rel T F ι3 Hs3 H σ st3 ∧ PostS T F W ι3 Hs3 (forF i g (xs.drop (j + 1)) st3) Z, fun σ' H' z => ⟨vs.length - (j + 1), by omega, rfl, hlt, z⟩, fun v H' hy => ?_⟩
      obtain ⟨rfl, hv⟩ := hJ2.yld j H2 v H' R2.s.sub hlt hy
      have hjx : j < xs.length := by rw [← rx.length]; exact hlt
      have hd : xs.drop j = xs[j] :: xs.drop (j + 1) := List.drop_eq_getElem_cons hjx
      obtain ⟨w, hw, rv⟩ := rx.get (List.getElem?_eq_getElem hjx)
      rw [hv] at hw
      cases hw
      rw [hd] at h2
      refine ⟨ι2, Hs2, _, R2.setSlot i (s := .sh xs[j]) rfl ⟨v, rfl, rv.up e2 p2⟩, ?_⟩
      simp only [forF] at h2
      cases e : g (st2.put i (.sh xs[j])) with
      | bad => rw [e] at h2; exact h2
      | exc x s => rw [e] at h2; exact h2
      | ok fl s =>
        rw [e] at h2
        cases fl with
        | nx => exact fun ι' Hs' H' σ' p e R' => ⟨ι', Hs', s, p2.trans p, e2.trans e, R', PostS.up h2 p e⟩
        | ct => exact fun ι' Hs' H' σ' p e R' => ⟨ι', Hs', s, p2.trans p, e2.trans e, R', PostS.up h2 p e⟩
        | bk => exact fun ι' Hs' H' σ' p e R' => h2 ι' Hs' H' σ' p e R'
        | rt d => exact h2
    · have hj' : j = vs.length := by omega
      refine .inl ⟨by rw [hj']; exact hJ2.stop H2 R2.s.sub, ?_⟩
      rw [hj', rx.length, List.drop_length] at h2
      exact PostS.next h2 R2
end
end Lit
end
section
set_option maxHeartbeats 1000000
namespace Lit
open PySem L2 PyProof.Rows
def nst : Expr → Bool
  | .Starred .. => false
  | _ => true
theorem star_cons {a : Expr} {es : List Expr} {env : Env} (h : nst a = true) : starEach (a :: es) env = (false, eval a env) :: starEach es env := by
  cases a <;> first | rfl | cases h
theorem star_all {env : Env} : ∀ {es : List Expr}, es.all nst = true → (starEach es env).all (fun x => !x.1) = true
  | [], _ => rfl
  | a :: es, h => by
    simp only [List.all_cons, Bool.and_eq_true] at h
    rw [star_cons h.1]
    simp only [List.all_cons, Bool.not_false, Bool.true_and]
    exact star_all h.2
theorem back_all {pos : Pos} {l : List (Bool × Sem Value)} (h : l.all (fun x => !x.1) = true) : (backTo pos l).all (fun x => !x.1) = true := by
  unfold backTo
  rw [List.all_map]
  exact h
theorem back_any {pos : Pos} {l : List (Bool × Sem Value)} (h : l.all (fun x => !x.1) = true) : (backTo pos l).any (·.1) = false := by
  have := back_all (pos := pos) h
  rw [Bool.eq_false_iff]
  intro z
  rw [List.any_eq_true] at z
  obtain ⟨x, hx, e⟩ := z
  have := List.all_eq_true.mp this x hx
  rw [e] at this
  cases this
section
variable {X : Cx} {a o : Expr} {es : List Expr} {pos apos : Pos} {m : Str}
theorem argF_of (h : (a :: es).all nst = true) (hl : es.length < 28) : ArgF X pos a es := by
  have h' := h
  simp only [List.all_cons, Bool.and_eq_true] at h
  refine ⟨star_cons h.1, ?_, back_any (star_all h.2)⟩
  rw [back_all (star_all h')]
  simp only [List.length_cons, List.length_nil, List.isEmpty_nil, if_true, Bool.true_and, Bool.and_eq_true]
  refine ⟨rfl, ?_⟩
  simp
  omega
def baseOk : Expr → Bool
  | .Call (.Name id _) [] [] _ => id != "super"
  | _ => true
theorem base_of (h : baseOk o = true) : attributeBase o m X.env (eval o X.env) = eval o X.env := by
  unfold attributeBase
  split
  · next id p pos =>
    have h : (id != "super") = true := h
    simp only [h, Bool.true_or, if_true]
  · rfl
theorem methF_of (hb : baseOk o = true) (h : es.all nst = true) (hl : es.length < 29) (he : (apos.endLine == pos.line) = true) : MethF X o m apos pos es := by
  refine ⟨base_of hb, ?_, he⟩
  unfold methodCallForm
  rw [back_all (star_all h)]
  have e2 : backToKw pos (keywordEach [] X.env) = [] := rfl
  rw [e2]
  simp
  omega
def plainT : Expr → Bool
  | .UnaryOp .Not .. | .BoolOp .. | .IfExp .. | .Compare .. => false
  | _ => true
theorem plainT_of {e : Expr} {env : Env} (h : plainT e = true) : ∀ whole, isTrue e env whole = (do let v ← whole; standAt e.pos; holding [v] (truthy v)) := by
  intro whole
  cases e <;> first | rfl | (cases h; done) | skip
  next op x p => cases op <;> first | rfl | cases h
def plainIx : Expr → Bool
  | .Slice .. => false
  | _ => true
theorem plainIx_of {e : Expr} (h : plainIx e = true) : PlainIx e := by
  intro o i
  cases e <;> first | rfl | cases h
/-- the comprehension's own way to its name -/
def swB (sc : List (Str × NameKind)) (t : Str) (line : Nat) : Expr → Bool
  | .ListComp _ _ s p | .SetComp _ _ s p | .DictComp _ _ _ s p => sc.lookup t == some .local && line == p.line && !(s.names.any fun (n, k) => n == t && (k == .local || k == .cell))
  | _ => false
theorem block_fn {env : Env} (h : env.scope.kind = .function) : env.blockKind = .function := by unfold Env.blockKind; rw [h]; rfl
theorem sw_of {env : Env} {e : Expr} {t : Str} {p : Pos} {l : Nat} (h : env.scope.kind = .function) : swapsWith e (some (.Name t p)) l env = pure (swB env.scope.names t p.line e) := by
  have hb := block_fn h
  cases e <;> first | rfl | skip
  all_goals
    unfold swapsWith swB Env.kindOf
    simp only [hb, Expr.pos]
    rfl
def noComp : Expr → Bool
  | .ListComp .. | .SetComp .. | .DictComp .. => false
  | _ => true
theorem sw_none {env : Env} {e : Expr} {l : Nat} (h : noComp e = true) : swapsWith e none l env = pure false := by
  cases e <;> first | rfl | cases h
theorem sw_attr {env : Env} {e o : Expr} {f : Str} {p : Pos} {l : Nat} : swapsWith e (some (.Attribute o f p)) l env = pure false := by
  cases e <;> rfl
theorem sw_sub {env : Env} {e o i : Expr} {p : Pos} {l : Nat} : swapsWithSole [.Subscript o i p] e l env = pure false := by
  cases e <;> rfl
theorem sw_tup {env : Env} {e : Expr} {ts : List Expr} {k : Nat} {p : Pos} {l : Nat} : swapsWithSole [.Tuple ts k p] e l env = pure false := by
  cases e <;> rfl
theorem sto_sub {env : Env} {e o i : Expr} {p : Pos} : swappedStores [.Subscript o i p] e env = pure none := by
  cases e <;> rfl
def noTup : Expr → Bool
  | .Tuple .. => false
  | _ => true
theorem sto_tup {env : Env} {e : Expr} {ts : List Expr} {k : Nat} {p : Pos} (h : noTup e = true) : swappedStores [.Tuple ts k p] e env = pure none := by
  cases e <;> first | rfl | cases h
theorem asg_sub {env : Env} {o i : Expr} {p : Pos} (h : plainIx i = true) : ∀ v, assign (.Subscript o i p) env v = (do
      let ov ← holding [v] (eval o env)
      let iv ← holding [v, ov] (eval i env)
      standAt p
      holding [v, ov, iv] (setItem ov iv v)
      release [v, ov, iv] []) := by
  intro v
  cases i <;> first | rfl | cases h
def noSet : Expr → Bool
  | .Set .. => false
  | _ => true
theorem fold_of {env : Env} {e : Expr} (h : noSet e = true) : ∀ x, foldedSetIterable e env x = pure x := by
  intro x
  cases e <;> first | rfl | cases h
theorem behind_of {op : CmpOp} {e : Expr} (h : noSet e = true) : behindInMarks op e = false := by
  cases e <;> first | rfl | cases h
theorem last_of {o p : CmpOp} {b c : Expr} (h : noSet c = true) : lastMarks [o, p] [b, c] = false := by
  show behindInMarks p c = false
  exact behind_of h
def visB (sc : List (Str × NameKind)) (x : Str) : Bool := match sc.lookup x with
  | some .local | some .cell | some .free => true
  | _ => false
def locB (sc : List (Str × NameKind)) (x : Str) : Bool := match sc.lookup x with
  | some .local | some .cell => true
  | _ => false
def glB (sc : List (Str × NameKind)) (x : Str) : Bool := match sc.lookup x with
  | some .globalImplicit => true
  | _ => false
theorem vis_of {sc : Scope} {x : Str} (h : visB sc.names x = true) : Vis sc x := by
  unfold visB at h
  split at h
  · next e => exact .inl e
  · next e => exact .inr (.inl e)
  · next e => exact .inr (.inr e)
  · cases h
theorem loc_of {sc : Scope} {x : Str} (h : locB sc.names x = true) : L2.Loc sc x := by
  unfold locB at h
  split at h
  · next e => exact .inl e
  · next e => exact .inr e
  · cases h
theorem gl_of {x : Str} (h : glB X.env.scope.names x = true) : Gl X x := by
  unfold glB at h
  split at h
  · next e => exact e
  · cases h
/-- the block's names -/
def blkN (sc : List (Str × NameKind)) (names : List (Str × NameKind)) : List (Str × NameKind) :=
  names.map fun (n, k) => if (k == .free && sc.lookup n == some .cell) then (n, .cell) else (n, k)
theorem blkN_of {sc scope : Scope} (h : sc.kind = .function) : (relS scope sc).names = blkN sc.names scope.names := by
  unfold relS blkN
  simp [h]
def blkB (N : List Str) (sc : List (Str × NameKind)) (scope : Scope) (x : Str) (i : Nat) : Bool := blkC N ⟨.function, sc, false, false, []⟩ scope [(x, i)]
theorem blkB_of {N : List Str} {sc scope : Scope} {x : Str} {i : Nat} (h : blkB N sc.names scope x i = true) : BlkOk N sc scope [(x, i)] := blkOk_by h
end
end Lit
end
section
set_option maxHeartbeats 2000000
namespace Lit
open PySem L2 PyProof.Rows
/-- a context in which trees are read -/
structure CO (T : Tb) (P : Pg) (k : Nat) (N : List Str) (sc : List (Str × NameKind)) (X : Cx) : Prop where
  K : X.K = T.K
  N : X.N = N
  nd : X.N.Nodup
  sc : X.env.scope.names = sc
  kd : X.env.scope.kind = .function
  calm : X.calm = true
  S : SF T P X.mg
  bno : ∀ x ∈ bnm, X.mg x = none
  room : Room (k + 2) X.A
  fns : ∀ f, f < P.dn → FnA T P X.prog X.w X.mg X.base k f
theorem CO.blk {T : Tb} {P : Pg} {k : Nat} {N : List Str} {sc : List (Str × NameKind)} {X B : Cx} {scope : Scope} (C : CO T P k N sc X) (h : Blk X scope B) (hk : scope.kind = .function) : CO T P k N (blkN sc scope.names) B := by
  obtain ⟨s, H, c, cl, fp, rfl⟩ := h
  exact ⟨C.K, C.N, C.nd, by rw [← C.sc]; exact blkN_of C.kd, hk, C.calm, C.S, C.bno, C.room, C.fns⟩
def constB : D → Const → Bool
  | .non, .none => true
  | .bl b, .bool c => b == c
  | .int i, .int j => decide (i = j)
  | .str x, .str y => decide (x = y)
  | _, _ => false
def isNo : E → Bool
  | .no => true
  | _ => false
def nmB (x : Str) : Bool := !(x == ("__debug__" : Str)) && !(x == ("__classdict__" : Str))
def clsN : Ty → Option Nat
  | .cls c => some c
  | _ => none
def okI (fa fb : Expr → Bool) (kd : ItK) (b : E) (sc : List (Str × NameKind)) (iter : Expr) : Bool := match kd with
  | .lst | .tup | .str => fa iter && isNo b
  | .rng1 => match iter with
    | .Call (.Name x _) [ea] [] _ => decide (x = "range") && glB sc x && fa ea && nst ea && isNo b
    | _ => false
  | .rng2 => match iter with
    | .Call (.Name x _) [ea, eb] [] _ => decide (x = "range") && glB sc x && fa ea && fb eb && nst ea && nst eb
    | _ => false
def clB (c b : Bool) : Bool := !c || b
theorem clB_of {c b : Bool} (h : clB c b = true) (e : c = true) : b = true := by subst e; simpa [clB] using h
mutual
def okE (cl : Bool) (P : Pg) (N : List Str) : E → List (Str × NameKind) → Expr → Bool
  | .v i, sc, e => match e with
    | .Name x _ => decide (N[i]? = some x) && visB sc x && nmB x
    | _ => false
  | .k d, _, e => match e with
    | .Constant c _ _ => constB d c
    | _ => false
  | .g x, sc, e => match e with
    | .Name y _ => decide (x = y) && glB sc x && (P.glb x).isSome && nmB x
    | _ => false
  | .bin o a b, sc, e => match e with
    | .BinOp ea p eb _ => decide (o = p) && okE cl P N a sc ea && okE cl P N b sc eb
    | _ => false
  | .cmp o a b, sc, e => match e with
    | .Compare ea [p] [eb] _ => decide (o = p) && okE cl P N a sc ea && okE cl P N b sc eb && noSet eb
    | _ => false
  | .chn o p a b c, sc, e => match e with
    | .Compare ea [o', p'] [eb, ec] _ => decide (o = o') && decide (p = p') && okE cl P N a sc ea && okE cl P N b sc eb && okE cl P N c sc ec && noSet ec
    | _ => false
  | .and es, sc, e => match e with
    | .BoolOp .And vs _ => okL cl P N es sc vs
    | _ => false
  | .or es, sc, e => match e with
    | .BoolOp .Or vs _ => okL cl P N es sc vs
    | _ => false
  | .not a, sc, e => match e with
    | .UnaryOp .Not ea _ => okE cl P N a sc ea
    | _ => false
  | .neg a, sc, e => match e with
    | .UnaryOp .USub ea _ => okE cl P N a sc ea
    | _ => false
  | .ife c a b, sc, e => match e with
    | .IfExp ec ea eb _ => okE cl P N c sc ec && okE cl P N a sc ea && okE cl P N b sc eb
    | _ => false
  | .lst es, sc, e => match e with
    | .List vs _ => okL cl P N es sc vs
    | _ => false
  | .tup es, sc, e => match e with
    | .Tuple vs _ _ => okL cl P N es sc vs
    | _ => false
  | .cell es, sc, e => match e with
    | .List vs _ => okL cl P N es sc vs
    | _ => false
  | .ix a b, sc, e => match e with
    | .Subscript ea eb _ => okE cl P N a sc ea && okE cl P N b sc eb && plainIx eb
    | _ => false
  | .sl a lo hi, sc, e => match e with
    | .Subscript ea (.Slice l h none _) _ => okE cl P N a sc ea && (match l with
        | none => isNo lo
        | some el => !isNo lo && okE cl P N lo sc el) && (match h with
        | none => isNo hi
        | some eh => !isNo hi && okE cl P N hi sc eh)
    | _ => false
  | .call f es, sc, e => match e with
    | .Call (.Name x _) (ea :: vs) [] _ => decide (x = P.fnm f) && P.isg f && decide (f < P.dn) && glB sc x && nmB x && okL cl P N es sc (ea :: vs) && clB cl (P.cln f)
    | _ => false
  | .bi b a, sc, e => match e with
    | .Call (.Name x _) [ea] [] _ => decide (x = b.nm) && glB sc x && okE cl P N a sc ea && nst ea
    | _ => false
  | .lrng a, sc, e => match e with
    | .Call (.Name x _) [.Call (.Name y _) [ea] [] _] [] _ => decide (x = "list") && decide (y = "range") && glB sc x && glB sc y && okE cl P N a sc ea && nst ea
    | _ => false
  | .me m o es, sc, e => match e with
    | .Call (.Attribute eo x ap) (ea :: vs) [] ps => decide (x = m.nm) && okE cl P N o sc eo && okL cl P N es sc (ea :: vs) && baseOk eo && decide (vs.length < 28) && ap.endLine == ps.line
    | _ => false
  | .mu m o es, sc, e => match e with
    | .Call (.Attribute eo x ap) vs [] ps => decide (x = m.nm) && okE cl P N o sc eo && okL cl P N es sc vs && baseOk eo && decide (vs.length < 28) && ap.endLine == ps.line
    | _ => false
  | .fld o f, sc, e => match e with
    | .Attribute eo x _ => decide (x = f) && okE cl P N o sc eo && baseOk eo
    | _ => false
  | .con o f, sc, e => match e with
    | .Attribute eo x _ => decide (x = f) && okE cl P N o sc eo && baseOk eo
    | _ => false
  | .inv o m es, sc, e => match e with
    | .Call (.Attribute eo x ap) vs [] ps => decide (x = m) && okE cl P N o sc eo && okL cl P N es sc vs && baseOk eo && decide (vs.length < 28) && ap.endLine == ps.line && clB cl (P.mcl m)
    | _ => false
  | .mk c es, sc, e => match e with
    | .Call (.Name x _) (ea :: vs) [] _ => decide (x = P.cnm c) && (match P.mki c with
        | some f => decide (f < P.dn) && clB cl (P.cln f)
        | none => false) && glB sc x && nmB x && okL cl P N es sc (ea :: vs)
    | _ => false
  | .sto f a, sc, e => match e with
    | .Call (.Name x _) [ea] [] _ => decide (x = "str") && decide (f < P.dn) && glB sc x && okE cl P N a sc ea && nst ea && clB cl (P.cln f)
    | _ => false
  | .isi a t, sc, e => match e with
    | .Call (.Name x _) [ea, .Name y _] [] _ => decide (x = "isinstance") && decide (y = t.nm P) && t.ok P && glB sc x && glB sc y && nmB y && okE cl P N a sc ea && nst ea
    | _ => false
  | .lc i kd a b cond el, sc, e => match e with
    | .ListComp elt [⟨.Name x _, iter, ifs, ia⟩] scope _ => decide (ia = 0) && decide (N[i]? = some x) && blkB N sc scope x i && locB scope.names x && noSet iter && okI (okE cl P N a sc) (okE cl P N b sc) kd b sc iter && okE cl P N el (blkN sc scope.names) elt && okL cl P N cond (blkN sc scope.names) ifs && decide (ifs.length ≤ 1)
    | _ => false
  | .sup .., _, _ => false
  | .no, _, _ => false
def okL (cl : Bool) (P : Pg) (N : List Str) : Es → List (Str × NameKind) → List Expr → Bool
  | .nil, _, es => match es with
    | [] => true
    | _ => false
  | .cons a as, sc, es => match es with
    | e :: es => okE cl P N a sc e && nst e && okL cl P N as sc es
    | _ => false
end
end Lit
end
section
set_option maxHeartbeats 4000000
namespace Lit
open PySem L2 PyProof.Rows
section
variable {T : Tb} {P : Pg} {k : Nat} {N : List Str} {W : WX} {X : Cx} {cl : Bool}
structure SE (T : Tb) (P : Pg) (W : WX) (X : Cx) (ir : E) (x : Expr) : Prop where
  e : ∀ F, PE X x (TE' T F W (ev P ir))
  t : ∀ F, PT X x (TT' T F W fun st => (ev P ir st).bind truO)
structure SL (T : Tb) (P : Pg) (W : WX) (X : Cx) (es : Es) (vs : List Expr) : Prop where
  ns : vs.all nst = true
  a : ∀ F, PA X vs (TA' T F W (evc P es))
  l : ∀ F, PA X vs (TL' T F W (evs P es))
  and : ∀ F pos, es ≠ .nil → PE X (.BoolOp .And vs pos) (TE' T F W (evAnd P es)) ∧ PW X (.BoolOp .And vs pos) (TT' T F W fun st => (evAnd P es st).bind truO)
  or : ∀ F pos, es ≠ .nil → PE X (.BoolOp .Or vs pos) (TE' T F W (evOr P es)) ∧ PW X (.BoolOp .Or vs pos) (TT' T F W fun st => (evOr P es st).bind truO)
  c : ∀ F, vs.length ≤ 1 → PTs X vs (TT' T F W (evConds P es))
theorem SE.of {ir : E} {e : Expr} (hK : X.K = T.K) (h : ∀ F, PE X e (TE' T F W (ev P ir))) (hp : plainT e = true) : SE T P W X ir e := ⟨h, fun F => tt_plain hK (h F) (plainT_of hp)⟩
theorem tt_ife {F : Fr} {a b c : Expr} {pos : Pos} {fc fa fb : Stt → Out Bool} (hc : PT X c (TT' T F W fc)) (ha : PT X a (TT' T F W fa)) (hb : PT X b (TT' T F W fb)) : PT X (.IfExp c a b pos) (TT' T F W fun st => (fc st).bind fun t s1 => match t with
    | true => fa s1
    | false => fb s1) := ⟨fun pins s σ H Q I ⟨ι, Hs, st, R, h⟩ => by
  refine PyProof.Rows.isTrue_IfExp (thn (hc.run pins s σ H (fun t H1 => if t = true then TT' T F W fa σ H1 Q else TT' T F W fb σ H1 Q) I (Post.first (rep := rB) R h fun ι1 Hs1 H1 st1 x t p1 e1 R1 r1 h1 => ?_)) fun t s1 ⟨H1, I1, q1⟩ => ?_)
  · cases (show x = t from r1)
    cases x with
    | true => exact ⟨ι1, Hs1, st1, R1, h1⟩
    | false => exact ⟨ι1, Hs1, st1, R1, h1⟩
  · cases t with
    | true => exact ha.run pins s1 σ H1 Q I1 q1
    | false => exact hb.run pins s1 σ H1 Q I1 q1⟩
theorem konst {d : D} {c : Const} {j : Nat} {pos : Pos} {F : Fr} (h : constB d c = true) : PE X (.Constant c j pos) (TE' T F W (ev P (.k d))) := by
  cases d <;> cases c <;> first | cases h | skip
  · exact te_const pe_non fun _ _ => .non
  · next b c =>
    have e : b = c := by simpa [constB] using h
    subst e
    exact te_const pe_bl fun _ _ => .bl _
  · next b c =>
    have e : b = c := by simpa [constB] using h
    subst e
    exact te_const pe_int fun _ _ => .int _
  · next b c =>
    have e : b = c := by simpa [constB] using h
    subst e
    exact te_const pe_str fun _ _ => .str _
theorem isNo_of {e : E} (h : isNo e = true) : e = .no := by cases e <;> first | rfl | cases h
theorem nmB_of {x : Str} (h : nmB x = true) : (x == ("__debug__" : Str)) = false ∧ (x == ("__classdict__" : Str)) = false := by
  unfold nmB at h
  simpa using h
theorem bi_mem (b : Bi) : b.nm ∈ bnm := by cases b <;> decide
theorem ty_mem {t : Ty} (h : ∀ c, t ≠ .cls c) : t.nm P ∈ bnm := by
  cases t with
  | cls c => exact absurd rfl (h c)
  | int => show ("int" : Str) ∈ bnm; decide
  | bool => show ("bool" : Str) ∈ bnm; decide
  | str => show ("str" : Str) ∈ bnm; decide
  | tuple => show ("tuple" : Str) ∈ bnm; decide
  | list => show ("list" : Str) ∈ bnm; decide
theorem tkb0 {cl : Bool} {B : Cx} : TkB cl B W0 := by
  cases cl with
  | false => exact takes0
  | true =>
    intro u s x
    obtain ⟨a, B, sI, pins, σ, H, cls, d, rest⟩ := x
    exact rest.2.2.2.2.2.2.2.2.elim
theorem oneOp_no {kd : ItK} {b : E} (h : isNo b = true) : oneOp kd = true → ev P b = fun st => .ok (.sh .non) st := fun _ => by rw [isNo_of h]; rfl
/-- what is walked -/
theorem sndI {kd : ItK} {a b : E} {sc : List (Str × NameKind)} {iter tg : Expr} (C : CO T P k N sc X) (ha : ∀ e, okE cl P N a sc e = true → SE T P W X a e) (hb : ∀ e, okE cl P N b sc e = true → SE T P W X b e)
    (h : okI (okE cl P N a sc) (okE cl P N b sc) kd b sc iter = true) : (∀ F, PI X tg iter (walkOf X kd (TE' T F W (ev P a)) (TE' T F W (ev P b)))) ∧ (oneOp kd = true → ev P b = fun st => .ok (.sh .non) st) := by
  cases kd with
  | lst => simp only [okI, Bool.and_eq_true] at h; exact ⟨fun F => pi_l ((ha _ h.1).e F), oneOp_no h.2⟩
  | tup => simp only [okI, Bool.and_eq_true] at h; exact ⟨fun F => pi_t ((ha _ h.1).e F), oneOp_no h.2⟩
  | str => simp only [okI, Bool.and_eq_true] at h; exact ⟨fun F => pi_s ((ha _ h.1).e F), oneOp_no h.2⟩
  | rng1 =>
    simp only [okI] at h
    split at h
    · simp only [Bool.and_eq_true, decide_eq_true_eq] at h
      obtain ⟨⟨⟨⟨rfl, h2⟩, h3⟩, h4⟩, h5⟩ := h
      rw [← C.sc] at h2
      exact ⟨fun F => pi_r1 (gl_of h2) (C.bno _ (by decide)) ((ha _ h3).e F) (star_cons h4), oneOp_no h5⟩
    · cases h
  | rng2 =>
    simp only [okI] at h
    split at h
    · simp only [Bool.and_eq_true, decide_eq_true_eq] at h
      obtain ⟨⟨⟨⟨⟨rfl, h2⟩, h3⟩, h4⟩, h5⟩, h6⟩ := h
      rw [← C.sc] at h2
      exact ⟨fun F => pi_r2 (gl_of h2) (C.bno _ (by decide)) ((ha _ h3).e F) ((hb _ h4).e F) (star_cons h5) (star_cons h6), fun z => by cases z⟩
    · cases h
end
mutual
theorem sndE {cl : Bool} {T : Tb} {P : Pg} {k : Nat} {N : List Str} : (ir : E) → ∀ {W : WX} {X : Cx} {sc : List (Str × NameKind)} (C : CO T P k N sc X) (tk : TkB cl X W) (e : Expr), okE cl P N ir sc e = true → SE T P W X ir e
  | .v i, W, X, sc, C, tk, e, h => by
    simp only [okE] at h
    split at h
    · simp only [Bool.and_eq_true, decide_eq_true_eq] at h
      obtain ⟨⟨h1, h2⟩, h3⟩ := h
      rw [← C.sc] at h2
      rw [← C.N] at h1
      exact .of C.K (fun F => te_var h1 (vis_of h2) (nmB_of h3).1 (nmB_of h3).2) rfl
    · cases h
  | .k d, W, X, sc, C, tk, e, h => by
    simp only [okE] at h
    split at h
    · exact .of C.K (fun F => konst h) rfl
    · cases h
  | .g x, W, X, sc, C, tk, e, h => by
    simp only [okE] at h
    split at h
    · simp only [Bool.and_eq_true, decide_eq_true_eq] at h
      obtain ⟨⟨⟨rfl, h2⟩, h3⟩, h4⟩ := h
      rw [← C.sc] at h2
      obtain ⟨d, hd⟩ := Option.isSome_iff_exists.mp h3
      obtain ⟨v, u, hm, r, rp⟩ := C.S.glb x d hd
      refine .of C.K (fun F => ?_) rfl
      refine PE.imp (te_const (T := T) (F := F) (W := W) (pe_glob (gl_of h2) hm r (nmB_of h4).1) rp) fun σ H Q ⟨ι, Hs, st, R, q⟩ => ⟨ι, Hs, st, R, ?_⟩
      simpa only [ev, hd] using q
    · cases h
  | .bin o a b, W, X, sc, C, tk, e, h => by
    simp only [okE] at h
    split at h
    · simp only [Bool.and_eq_true, decide_eq_true_eq] at h
      obtain ⟨⟨rfl, h2⟩, h3⟩ := h
      exact .of C.K (fun F => te_bin ((sndE a C tk _ h2).e F) ((sndE b C tk _ h3).e F)) rfl
    · cases h
  | .cmp o a b, W, X, sc, C, tk, e, h => by
    simp only [okE] at h
    split at h
    · simp only [Bool.and_eq_true, decide_eq_true_eq] at h
      obtain ⟨⟨⟨rfl, h2⟩, h3⟩, h4⟩ := h
      exact ⟨fun F => te_cmp C.K C.room.units ((sndE a C tk _ h2).e F) ((sndE b C tk _ h3).e F) (behind_of h4), fun F => tt_cmp C.K C.room.units ((sndE a C tk _ h2).e F) ((sndE b C tk _ h3).e F) (behind_of h4)⟩
    · cases h
  | .chn o p a b c, W, X, sc, C, tk, e, h => by
    simp only [okE] at h
    split at h
    · simp only [Bool.and_eq_true, decide_eq_true_eq] at h
      obtain ⟨⟨⟨⟨⟨rfl, rfl⟩, h2⟩, h3⟩, h4⟩, h5⟩ := h
      exact ⟨fun F => te_chn C.K C.room.units ((sndE a C tk _ h2).e F) ((sndE b C tk _ h3).e F) ((sndE c C tk _ h4).e F) (last_of h5), fun F => tt_chn C.K C.room.units ((sndE a C tk _ h2).e F) ((sndE b C tk _ h3).e F) ((sndE c C tk _ h4).e F) (last_of h5)⟩
    · cases h
  | .and es, W, X, sc, C, tk, e, h => by
    simp only [okE] at h
    split at h
    · next vs pos =>
      have q := sndL es C tk _ h
      by_cases hn : es = .nil
      · subst hn
        refine ⟨fun F => ⟨fun pins s σ H Q I z => ?_⟩, fun F => ⟨fun pins s σ H Q I z => ?_⟩⟩
        · obtain ⟨ι, Hs, st, R, z⟩ := z; exact z.elim
        · obtain ⟨ι, Hs, st, R, z⟩ := z; exact z.elim
      · exact ⟨fun F => (q.and F pos hn).1, fun F => (q.and F pos hn).2.pt⟩
    · cases h
  | .or es, W, X, sc, C, tk, e, h => by
    simp only [okE] at h
    split at h
    · next vs pos =>
      have q := sndL es C tk _ h
      by_cases hn : es = .nil
      · subst hn
        refine ⟨fun F => ⟨fun pins s σ H Q I z => ?_⟩, fun F => ⟨fun pins s σ H Q I z => ?_⟩⟩
        · obtain ⟨ι, Hs, st, R, z⟩ := z; exact z.elim
        · obtain ⟨ι, Hs, st, R, z⟩ := z; exact z.elim
      · exact ⟨fun F => (q.or F pos hn).1, fun F => (q.or F pos hn).2.pt⟩
    · cases h
  | .not a, W, X, sc, C, tk, e, h => by
    simp only [okE] at h
    split at h
    · exact ⟨fun F => te_not C.K ((sndE a C tk _ h).e F), fun F => tt_notE ((sndE a C tk _ h).t F)⟩
    · cases h
  | .neg a, W, X, sc, C, tk, e, h => by
    simp only [okE] at h
    split at h
    · exact .of C.K (fun F => te_neg ((sndE a C tk _ h).e F)) rfl
    · cases h
  | .ife c a b, W, X, sc, C, tk, e, h => by
    simp only [okE] at h
    split at h
    · simp only [Bool.and_eq_true] at h
      obtain ⟨⟨h1, h2⟩, h3⟩ := h
      have e1 : ev P (.ife c a b) = fun st => ((ev P c st).bind truO).bind fun t s1 => match t with
        | true => ev P a s1
        | false => ev P b s1 := by
        funext st
        rw [Out.assoc]
        rfl
      refine ⟨fun F => ?_, fun F => ?_⟩
      · rw [e1]
        exact te_ife ((sndE c C tk _ h1).t F) ((sndE a C tk _ h2).e F) ((sndE b C tk _ h3).e F)
      · refine PT.imp (tt_ife ((sndE c C tk _ h1).t F) ((sndE a C tk _ h2).t F) ((sndE b C tk _ h3).t F)) fun σ H Q ⟨ι, Hs, st, R, z⟩ => ⟨ι, Hs, st, R, ?_⟩
        rw [e1] at z
        have z : Post T F W σ (rB σ) ι Hs ((((ev P c st).bind truO).bind fun t s1 => match t with
          | true => ev P a s1
          | false => ev P b s1).bind truO) Q := z
        show Post T F W σ (rB σ) ι Hs (((ev P c st).bind truO).bind fun t s1 => match t with
          | true => (ev P a s1).bind truO
          | false => (ev P b s1).bind truO) Q
        revert z
        generalize (ev P c st).bind truO = oc
        intro z
        cases oc with
        | bad => exact z
        | exc x s => exact z
        | ok t s => cases t <;> exact z
    · cases h
  | .lst es, W, X, sc, C, tk, e, h => by
    simp only [okE] at h
    split at h
    · exact .of C.K (fun F => te_lst ((sndL es C tk _ h).a F)) rfl
    · cases h
  | .tup es, W, X, sc, C, tk, e, h => by
    simp only [okE] at h
    split at h
    · exact .of C.K (fun F => te_tup ((sndL es C tk _ h).a F)) rfl
    · cases h
  | .cell es, W, X, sc, C, tk, e, h => by
    simp only [okE] at h
    split at h
    · exact .of C.K (fun F => te_cell ((sndL es C tk _ h).a F)) rfl
    · cases h
  | .ix a b, W, X, sc, C, tk, e, h => by
    simp only [okE] at h
    split at h
    · simp only [Bool.and_eq_true] at h
      obtain ⟨⟨h1, h2⟩, h3⟩ := h
      exact .of C.K (fun F => te_ix ((sndE a C tk _ h1).e F) ((sndE b C tk _ h2).e F) (plainIx_of h3)) rfl
    · cases h
  | .sl a lo hi, W, X, sc, C, tk, e, h => by
    simp only [okE] at h
    split at h
    · next ea l hh pp pos =>
      simp only [Bool.and_eq_true] at h
      obtain ⟨⟨h1, h2⟩, h3⟩ := h
      have part : ∀ {F : Fr} (f : E) (l : Option Expr), (∀ el, okE cl P N f sc el = true → SE T P W X f el) → (match l with
        | none => isNo f
        | some el => !isNo f && okE cl P N f sc el) = true → PO X l (TO' T F W (partF f (ev P f))) := by
        intro F f l hf hl
        cases l with
        | none => rw [isNo_of hl]; exact to_none
        | some el =>
          simp only [Bool.and_eq_true] at hl
          have e1 : partF f (ev P f) = fun st => (ev P f st).bind partO := by
            cases f <;> first | rfl | (exact absurd hl.1 (by decide))
          rw [e1]
          exact to_some ((hf _ hl.2).e F)
      exact .of C.K (fun F => te_sl ((sndE a C tk _ h1).e F) (part lo l (fun el z => sndE lo C tk el z) h2) (part hi hh (fun el z => sndE hi C tk el z) h3)) rfl
    · cases h
  | .call f es, W, X, sc, C, tk, e, h => by
    simp only [okE] at h
    split at h
    · next x p ea vs pos =>
      simp only [Bool.and_eq_true, decide_eq_true_eq] at h
      obtain ⟨⟨⟨⟨⟨⟨rfl, h2⟩, h3⟩, h4⟩, h5⟩, h6⟩, h7⟩ := h
      have q := sndL es C tk _ h6
      have ns := q.ns
      simp only [List.all_cons, Bool.and_eq_true] at ns
      rw [← C.sc] at h4
      exact .of C.K (fun F => te_call C.S C.K (C.fns f h3) (C.room.mono (by omega)) (passB tk (clB_of h7)) h2 (gl_of h4) (nmB_of h5).1 (q.a F) (star_cons ns.1) (back_any (star_all ns.2))) rfl
    · cases h
  | .bi b a, W, X, sc, C, tk, e, h => by
    simp only [okE] at h
    split at h
    · simp only [Bool.and_eq_true, decide_eq_true_eq] at h
      obtain ⟨⟨⟨rfl, h2⟩, h3⟩, h4⟩ := h
      rw [← C.sc] at h2
      exact .of C.K (fun F => te_bi b C.calm C.K (gl_of h2) (C.bno _ (bi_mem b)) ((sndE a C tk _ h3).e F) (star_cons h4)) rfl
    · cases h
  | .lrng a, W, X, sc, C, tk, e, h => by
    simp only [okE] at h
    split at h
    · simp only [Bool.and_eq_true, decide_eq_true_eq] at h
      obtain ⟨⟨⟨⟨⟨rfl, rfl⟩, h2⟩, h3⟩, h4⟩, h5⟩ := h
      rw [← C.sc] at h2 h3
      exact .of C.K (fun F => te_lrng C.calm (gl_of h2) (C.bno _ (by decide)) (gl_of h3) (C.bno _ (by decide)) ((sndE a C tk _ h4).e F) (star_cons h5)) rfl
    · cases h
  | .me m o es, W, X, sc, C, tk, e, h => by
    simp only [okE] at h
    split at h
    · simp only [Bool.and_eq_true, decide_eq_true_eq] at h
      obtain ⟨⟨⟨⟨⟨rfl, h2⟩, h3⟩, h4⟩, h5⟩, h6⟩ := h
      have q := sndL es C tk _ h3
      exact .of C.K (fun F => te_me m C.K ((sndE o C tk _ h2).e F) (q.l F) (base_of h4) (argF_of q.ns h5) h6) rfl
    · cases h
  | .mu m o es, W, X, sc, C, tk, e, h => by
    simp only [okE] at h
    split at h
    · next eo x ap vs ps =>
      simp only [Bool.and_eq_true, decide_eq_true_eq] at h
      obtain ⟨⟨⟨⟨⟨rfl, h2⟩, h3⟩, h4⟩, h5⟩, h6⟩ := h
      have q := sndL es C tk _ h3
      cases vs with
      | nil =>
        have e1 : es = .nil := by
          cases es with
          | nil => rfl
          | cons _ _ => cases h3
        subst e1
        exact .of C.K (fun F => te_mu0 m C.K ((sndE o C tk _ h2).e F) (base_of h4) h6) rfl
      | cons ea vs => exact .of C.K (fun F => te_mu m C.K ((sndE o C tk _ h2).e F) (q.a F) (base_of h4) (argF_of q.ns (by simp only [List.length_cons] at h5; omega)) h6) rfl
    · cases h
  | .fld o f, W, X, sc, C, tk, e, h => by
    simp only [okE] at h
    split at h
    · simp only [Bool.and_eq_true, decide_eq_true_eq] at h
      obtain ⟨⟨rfl, h2⟩, h3⟩ := h
      exact .of C.K (fun F => te_fld C.S C.K ((sndE o C tk _ h2).e F) (base_of h3)) rfl
    · cases h
  | .con o f, W, X, sc, C, tk, e, h => by
    simp only [okE] at h
    split at h
    · simp only [Bool.and_eq_true, decide_eq_true_eq] at h
      obtain ⟨⟨rfl, h2⟩, h3⟩ := h
      exact .of C.K (fun F => te_con C.S C.K ((sndE o C tk _ h2).e F) (base_of h3)) rfl
    · cases h
  | .inv o m es, W, X, sc, C, tk, e, h => by
    simp only [okE] at h
    split at h
    · next eo x ap vs ps =>
      simp only [Bool.and_eq_true, decide_eq_true_eq] at h
      obtain ⟨⟨⟨⟨⟨⟨rfl, h2⟩, h3⟩, h4⟩, h5⟩, h6⟩, h7⟩ := h
      have q := sndL es C tk _ h3
      have pb : ∀ c f, P.mth c x = some f → ∀ σ, PassesAt (cxB (P.cln f) X.prog X.w) X σ (WE W σ) := fun c f hm => passB tk fun e => C.S.mcl c x f (clB_of h7 e) hm
      have G : ∀ c f, P.mth c x = some f → FnA T P X.prog X.w X.mg X.base k f := fun c f hm => C.fns f (C.S.mdn c x f hm)
      have hf := methF_of (X := X) (m := x) (apos := ap) (pos := ps) h4 q.ns (by omega) h6
      cases vs with
      | nil =>
        have e1 : es = .nil := by
          cases es with
          | nil => rfl
          | cons _ _ => cases h3
        subst e1
        exact .of C.K (fun F => te_inv0 C.S C.K G (C.room.mono (by omega)) pb ((sndE o C tk _ h2).e F) hf) rfl
      | cons ea vs =>
        have ns := q.ns
        simp only [List.all_cons, Bool.and_eq_true] at ns
        exact .of C.K (fun F => te_inv C.S C.K G (C.room.mono (by omega)) pb ((sndE o C tk _ h2).e F) hf (q.a F) (star_cons ns.1) (back_any (star_all ns.2))) rfl
    · cases h
  | .mk c es, W, X, sc, C, tk, e, h => by
    simp only [okE] at h
    split at h
    · next x p ea vs pos =>
      simp only [Bool.and_eq_true, decide_eq_true_eq] at h
      obtain ⟨⟨⟨⟨rfl, h3⟩, h4⟩, h5⟩, h6⟩ := h
      have q := sndL es C tk _ h6
      have ns := q.ns
      simp only [List.all_cons, Bool.and_eq_true] at ns
      rw [← C.sc] at h4
      split at h3
      · next f hm =>
        simp only [Bool.and_eq_true, decide_eq_true_eq] at h3
        exact .of C.K (fun F => te_mk C.S C.K hm (C.fns f h3.1) (C.room.mono (by omega)) (passB tk (clB_of h3.2)) (gl_of h4) (nmB_of h5).1 (q.a F) (star_cons ns.1) (back_any (star_all ns.2))) rfl
      · cases h3
    · cases h
  | .sto f a, W, X, sc, C, tk, e, h => by
    simp only [okE] at h
    split at h
    · simp only [Bool.and_eq_true, decide_eq_true_eq] at h
      obtain ⟨⟨⟨⟨⟨rfl, h2⟩, h3⟩, h4⟩, h5⟩, h6⟩ := h
      rw [← C.sc] at h3
      exact .of C.K (fun F => te_sto C.S C.K (C.fns f h2) C.room (passB tk (clB_of h6)) (gl_of h3) (C.bno _ (by decide)) ((sndE a C tk _ h4).e F) (star_cons h5)) rfl
    · cases h
  | .isi a t, W, X, sc, C, tk, e, h => by
    simp only [okE] at h
    split at h
    · simp only [Bool.and_eq_true, decide_eq_true_eq] at h
      obtain ⟨⟨⟨⟨⟨⟨⟨rfl, rfl⟩, h2⟩, h3⟩, h4⟩, h5⟩, h6⟩, h7⟩ := h
      rw [← C.sc] at h3 h4
      exact .of C.K (fun F => te_isi C.S C.K h2 (gl_of h3) (C.bno _ (by decide)) (gl_of h4) (fun z => C.bno _ (ty_mem z)) (nmB_of h5).1 ((sndE a C tk _ h6).e F) (star_cons h7)) rfl
    · cases h
  | .lc i kd a b cond el, W, X, sc, C, tk, e, h => by
    simp only [okE] at h
    split at h
    · next elt x tp iter ifs ia scope pos =>
      simp only [Bool.and_eq_true, decide_eq_true_eq] at h
      obtain ⟨⟨⟨⟨⟨⟨⟨⟨rfl, h2⟩, h3⟩, h4⟩, h5⟩, h6⟩, h7⟩, h8⟩, h9⟩ := h
      rw [← C.N] at h2
      rw [← C.N, ← C.sc] at h3
      obtain ⟨hi, hfb⟩ := sndI (tg := .Name x tp) C (fun e z => sndE a C tk e z) (fun e z => sndE b C tk e z) h6
      have bo := blkB_of h3
      refine .of C.K (fun F => te_lc C.calm C.nd h2 (hi F) hfb bo (loc_of h4) (fun B hB F' => ?_) (fun B hB F' => ?_) (fold_of h5)) rfl
      · exact (sndL cond (C.blk hB bo.kind) tkb0 _ h8).c F' h9
      · exact (sndE el (C.blk hB bo.kind) tkb0 _ h7).e F'
    · cases h
  | .sup .., W, X, sc, C, tk, e, h => by cases h
  | .no, W, X, sc, C, tk, e, h => by cases h
theorem sndL {cl : Bool} {T : Tb} {P : Pg} {k : Nat} {N : List Str} : (es : Es) → ∀ {W : WX} {X : Cx} {sc : List (Str × NameKind)} (C : CO T P k N sc X) (tk : TkB cl X W) (vs : List Expr), okL cl P N es sc vs = true → SL T P W X es vs
  | .nil, W, X, sc, C, tk, vs, h => by
    simp only [okL] at h
    split at h
    · exact ⟨rfl, fun F => ta_nil, fun F => tl_nil, fun F pos z => absurd rfl z, fun F pos z => absurd rfl z, fun F _ => pts0⟩
    · cases h
  | .cons a as, W, X, sc, C, tk, vs, h => by
    simp only [okL] at h
    split at h
    · next e es =>
      simp only [Bool.and_eq_true] at h
      obtain ⟨⟨h1, h2⟩, h3⟩ := h
      have ha := sndE a C tk _ h1
      have q := sndL as C tk _ h3
      refine ⟨by simp only [List.all_cons, h2, q.ns]; rfl, fun F => ta_cons (ha.e F) (q.a F) (star_cons h2), fun F => tl_cons (ha.e F) (q.l F) (star_cons h2), fun F pos _ => ?_, fun F pos _ => ?_, fun F hl => ?_⟩
      · cases as with
        | nil =>
          cases es with
          | nil => exact ⟨pe_one (ha.e F), pw_and1 (ha.t F)⟩
          | cons _ _ => cases h3
        | cons a' as' =>
          cases es with
          | nil => cases h3
          | cons e' es' =>
            obtain ⟨q1, q2⟩ := q.and F pos (fun z => by cases z)
            exact ⟨te_and (ha.e F) q1, tw_and (ha.t F) q2⟩
      · cases as with
        | nil =>
          cases es with
          | nil => exact ⟨pe_one (ha.e F), pw_or1 (ha.t F)⟩
          | cons _ _ => cases h3
        | cons a' as' =>
          cases es with
          | nil => cases h3
          | cons e' es' =>
            obtain ⟨q1, q2⟩ := q.or F pos (fun z => by cases z)
            exact ⟨te_or (ha.e F) q1, tw_or (ha.t F) q2⟩
      · cases es with
        | cons _ _ => simp at hl
        | nil =>
          cases as with
          | cons _ _ => cases h3
          | nil => exact pts1 (ha.t F)
    · cases h
end
end Lit
end
section
set_option maxHeartbeats 4000000
namespace Lit
open PySem PySem.Spec L2 PyProof.Rows
theorem lookup_zip {ps : List Str} {us : List Value} (h : us.length = ps.length) {n : Str} (hn : n ∈ ps) : ((ps.zip us).lookup n).isNone = false := by
  induction ps generalizing us with
  | nil => cases hn
  | cons p ps ih =>
    cases us with
    | nil => cases h
    | cons u us =>
      simp only [List.zip_cons_cons, List.lookup]
      split
      · rfl
      · next hq =>
        refine ih (by simpa using h) ?_
        rcases List.mem_cons.mp hn with e | e
        · subst e; simp at hq
        · exact e
theorem zip_map {ps : List Str} : ∀ {us : List Value}, us.length = ps.length → ps.Nodup → (ps.filterMap fun n => ((ps.zip us).lookup n).map (fun v => (n, v))) = ps.zip us := by
  intro us h nd
  have key : ∀ (qs : List Str) (vs : List Value) (m : List (Str × Value)), vs.length = qs.length → qs.Nodup → (∀ q ∈ qs, ∀ v, (q, v) ∉ m) → (∀ q, q ∈ qs → m.lookup q = none) →
      (qs.filterMap fun n => ((m ++ qs.zip vs).lookup n).map (fun v => (n, v))) = qs.zip vs := by
    intro qs
    induction qs with
    | nil => intro vs m _ _ _ _; rfl
    | cons q qs ih =>
      intro vs m hl nd hm hm2
      cases vs with
      | nil => cases hl
      | cons v vs =>
        have e1 : (m ++ (q :: qs).zip (v :: vs)).lookup q = some v := by
          rw [List.lookup_append, hm2 q List.mem_cons_self]
          simp [List.lookup]
        rw [List.filterMap_cons, e1]
        simp only [Option.map_some, List.zip_cons_cons, List.cons.injEq, true_and]
        have e2 : m ++ (q, v) :: qs.zip vs = (m ++ [(q, v)]) ++ qs.zip vs := by simp
        rw [e2]
        have ndq := List.nodup_cons.mp nd
        refine ih vs (m ++ [(q, v)]) (by simpa using hl) ndq.2 (fun q' h' v' hq => ?_) (fun q' h' => ?_)
        · rcases List.mem_append.mp hq with z | z
          · exact hm q' (List.mem_cons_of_mem _ h') v' z
          · simp at z; exact ndq.1 (z.1 ▸ h')
        · rw [List.lookup_append, hm2 q' (List.mem_cons_of_mem _ h')]
          have : (q' == q) = false := by
            simp only [beq_eq_false_iff_ne, ne_eq]
            intro e; exact ndq.1 (e ▸ h')
          simp [List.lookup, this]
  have := key ps us [] h nd (fun _ _ _ z => by cases z) (fun _ _ => rfl)
  simpa using this
theorem bind_all {x qual : Str} {body : List Stmt} {scope : Scope} {kV doc pm cdv ct : Value} {an : Option Addr} {as : List Arg} {kwd : List (Option Expr)} {dfl : List Expr} {us : List Value} (h : us.length = as.length) (nd : (as.map (·.arg)).Nodup) :
    bindArgs (PySem.W.fnOf x qual ⟨[], as, none, [], kwd, none, dfl⟩ body scope .none kV doc pm an cdv ct) ⟨us, []⟩ = pure ((as.map (·.arg)).zip us) := by
  have hz := zip_map (ps := as.map (·.arg)) (us := us) (by simpa using h) nd
  have hf : ((as.map (·.arg)).take as.length).filter (fun n => (((as.map (·.arg)).zip us).lookup n).isNone) = [] := by
    rw [List.filter_eq_nil_iff]
    intro n hn
    rw [lookup_zip (by simpa using h) (List.mem_of_mem_take hn)]
    decide
  have hd : (as.map (·.arg)).drop as.length = [] := by
    rw [List.drop_eq_nil_iff]; simp
  have e0 : seqItems? Value.none = pure none := by rfl
  have hl : decide (us.length > as.length) = false := by simp [h]
  unfold bindArgs PySem.W.fnOf
  simp only [List.map_nil, List.nil_append, e0, pure_bind, List.forIn_nil, List.length_map, hl, Bool.false_and, Bool.false_eq_true, if_false, Option.getD_none, List.drop_nil, List.length_nil, Nat.sub_zero, hf, List.isEmpty_nil, Bool.not_true, hd, List.zip_nil_left, List.append_nil, hz]
/-- every parameter given, the defaults unused -/
theorem bind_dfl {x qual : Str} {body : List Stmt} {scope : Scope} {kV doc pm cdv ct : Value} {an : Option Addr} {as : List Arg} {kwd : List (Option Expr)} {dfl : List Expr} {us its : List Value} {tT : Addr} (h : us.length = as.length) (hi : its.length ≤ as.length) (nd : (as.map (·.arg)).Nodup) :
    ∃ k, bindArgs (PySem.W.fnOf x qual ⟨[], as, none, [], kwd, none, dfl⟩ body scope (.ref tT) kV doc pm an cdv ct) ⟨us, []⟩ = seqItems? (.ref tT) >>= k ∧ k (some its.toArray) = pure ((as.map (·.arg)).zip us) := by
  have hz := zip_map (ps := as.map (·.arg)) (us := us) (by simpa using h) nd
  have hf : ∀ n, ((as.map (·.arg)).take n).filter (fun n => (((as.map (·.arg)).zip us).lookup n).isNone) = [] := by
    intro n
    rw [List.filter_eq_nil_iff]
    intro n hn
    rw [lookup_zip (by simpa using h) (List.mem_of_mem_take hn)]
    decide
  have hl : decide (us.length > as.length) = false := by simp [h]
  have hfor : ∀ (l : List (Str × Value)), (∀ p ∈ l, p.1 ∈ as.map (·.arg)) → (forIn l ((as.map (·.arg)).zip us) fun (p : Str × Value) (slots : List (Str × Value)) => if (slots.lookup p.1).isNone = true then (pure (ForInStep.yield (slots ++ [(p.1, p.2)])) : Sem _) else pure (ForInStep.yield slots)) = pure ((as.map (·.arg)).zip us) := by
    intro l
    induction l with
    | nil => intro _; rfl
    | cons p l ih =>
      intro hp
      rw [List.forIn_cons, lookup_zip (by simpa using h) (hp p List.mem_cons_self)]
      simp only [Bool.false_eq_true, if_false, pure_bind]
      exact ih fun q hq => hp q (List.mem_cons_of_mem _ hq)
  unfold bindArgs PySem.W.fnOf
  simp only [List.map_nil, List.nil_append, pure_bind, List.forIn_nil, List.length_map, hl, Bool.false_and, Bool.false_eq_true, if_false, List.append_nil]
  refine ⟨_, rfl, ?_⟩
  simp only [Option.getD_some, List.toList_toArray, hf, List.isEmpty_nil, Bool.not_true, Bool.false_eq_true, if_false, pure_bind]
  rw [hfor _ fun p hp => List.mem_of_mem_drop (List.of_mem_zip hp).1]
  simp only [pure_bind, hz]
end Lit
end
section
set_option maxHeartbeats 4000000
namespace PySem
namespace XI
open PySem.W PySem.Calls PyProof.Rows PySem.HandSPX
/-- the text of such an __init__ -/
structure ITxt (fld pn msg : Str) (as : List Arg) (body : List Stmt) (sc : Scope) : Prop where
  as_ : as.map (·.arg) = [("self" : Str), pn]
  ne : ("self" : Str) ≠ pn
  hd : (pn == ("__debug__" : Str)) = false
  body : ∃ a1 a2 a3 kk a4 a5 a6 b1 b2 b3 b4, body = [.Expr (.Call (.Attribute (.Call (.Name "super" a1) [] [] a2) "__init__" a3) [.Constant (.str msg) kk a4] [] a5) a6, .Assign [.Attribute (.Name "self" b1) fld b2] (.Name pn b3) b4] ∧ (a3.endLine == a5.line) = true
  kind : sc.kind = .function
  co : sc.isCoroutine = false
  gen : sc.isGenerator = false
  nocell : ∀ x ∈ sc.names, x.2 ≠ .cell
  lself : sc.names.lookup ("self" : Str) = some .local
  lpn : sc.names.lookup pn = some .local
  lsup : sc.names.lookup ("super" : Str) = some .globalImplicit
  lcls : sc.names.lookup ("__class__" : Str) = some .free
/-- what the written part says of the class at C and of its __init__ at fI -/
structure XTxt (P : Program) (K : Frag) (mg : Str → Option Value) (nm : Str) (C fI : Addr) (fld : Str) : Prop where
  gC : mg nm = some (.ref C)
  cls : ∃ nm q N bs bm sn sub ab col dd k0 k1 k2 k3 k5, K.lookup C = some (excClassObj nm q C N bs bm true sn sub ab col dd k0 k1 k2 k3 k5 "ValueError.__new__") ∧ refsVE bm = true
  sa : findIn K (.ref C) "__setattr__" = some (some (.builtin "object.__setattr__"))
  ga : findIn K (.ref C) "__getattribute__" = some (some (.builtin "BaseException.__getattribute__"))
  gg : findIn K (.ref C) "__getattr__" = some none
  noN : findIn K (.ref C) fld = some none
  iC : findIn K (.ref C) "__init__" = some (some (.ref fI))
  tC : typeIn K (.ref fI) = some (.type "function")
  kC : keepIn K (.ref C) = true
  exC : subIn K (.ref C) (.type "BaseException") = some true
  veC : subIn K (.ref C) (.type "ValueError") = some true
  tyC : typeIn K (.ref C) = some (.type "type")
  hdC : hasDictIn K C = true
  sup : ks_superIn K C C "__init__" = some (some (.builtin "ValueError.__init__"))
  mroC : mroIn K C (.ref C) = some true
  exI : excInitIn K C [.type "ValueError", .type "Exception", .type "BaseException", .type "object"] "ValueError.__new__" = true
  tp : nsIn K cStatics "thirdparty.any" = some none
  gsup : mg "super" = none
  main : (P.main.scope.names.lookup ("super" : Str)).isSome = false
  fn : ∃ (oc : Value) (od : Option Addr) (qual : Str) (as : List Arg) (kwd : List (Option Expr)) (dfl : List Expr) (body : List Stmt) (sc : Scope) (pn msg : Str) (kV doc pm : Value) (an : Option Addr) (cda cc : Addr) (ct : Value) (osl : Array (Option Value)) (ccl cl : Value) (cdd cld : Option Addr) (ccs csl : Array (Option Value)) (vs : Array Value) (file : Str) (tf : Tok),
    ITxt fld pn msg as body sc ∧ K.lookup fI = some ⟨oc, od, .func (ksFn "__init__" qual ⟨[], as, none, [], kwd, none, dfl⟩ body sc .none kV doc pm an (.ref cda) ct cc), osl⟩ ∧ codeIn K (.ref cda) qual = true ∧
    K.lookup cc = some ⟨cl, cld, .cell (some (.ref C)), csl⟩ ∧ K.lookup cda = some ⟨ccl, cdd, .fields vs, ccs⟩ ∧ vs[2]? = some (.str file tf) ∧ ((P.main.file : Str) == file) = true
/-- what __init__ leaves of a fresh exception at x -/
structure InitEnd (fld : Str) (h h' : Heap) (x C dx t1 : Addr) (v : Value) : Prop where
  keep : ∀ b o, b ≠ x → h.get? b = some o → h'.get? b = some o
  obj : h'.get? x = some { cls := .ref C, dict := some dx, data := .fields #[.ref t1, .none, .none, .none, .bool false, .none] }
  dbig : h.objs.size ≤ dx
  dne : dx ≠ x
  ns : h'.Ns1 dx (fun y => if y = fld then some v else none)
theorem one_size (v : Value) : [v].length ≤ sizeLine := by
  rw [sizeLine_eq]
  exact (by decide : 1 ≤ 16777216)
theorem upd3 {x a b : Addr} {o p q : Obj} (na : a ≠ x) (nb : b ≠ x) : UpdF x o [(a, p), (b, q), (x, o)] (fun o' => [(a, p), (b, q), (x, o')]) :=
  .tail na (.tail nb (.head fun p hp => by cases hp))
section
variable {prog : Program} {w : World} {A : Around} {E : Value → Shared → Prop} {R : Result → Shared → Prop} {s : Shared} {K : Frag} {mg mb : Str → Option Value} {nm fld : Str} {C fI : Addr}
theorem xinit (T : XTxt prog K mg nm C fI fld) {x t0 : Addr} {v : Value} (X : K.In s.heap) (hlim : s.heap.NoLimit) (hg : s.heap.Ns mainGlobals mg) (hb : s.heap.Ns builtinsNs mb) (hbt : mb "super" = bootBuiltins "super") (hx : s.heap.get? x = some (excObj C t0 none .none)) (hnx : K.lookup x = none) (hroom : A.depth < recursionLimit)
    (hq : ∀ h' tk dx t1, InitEnd fld s.heap h' x C dx t1 v → R (.ok (.ret .none)) { s with heap := h', toks := tk }) :
    codeAny (model prog w) A (.call (.ref fI) ⟨[.ref x, v], []⟩) R s := by
  obtain ⟨oc, od, qual, as, kwd, dfl, body, sc, pn, msg, kV, doc, pm, an, cda, cc, ct, osl, ccl, cl, cdd, cld, ccs, csl, vs, file, tf, I, ho, hcd, hcell, hcode, hvs, hfile⟩ := T.fn
  obtain ⟨nm', q, N, bs, bm, sn, sub, ab, col, dd, k0, k1, k2, k3, k5, hC, hbm⟩ := T.cls
  obtain ⟨a1, a2, a3, kk, a4, a5, a6, b1, b2, b3, b4, rfl, hline⟩ := I.body
  have hcl : clsIn K C = some { name := nm', bases := bs, mro := .ref C :: bm, ns := N, qualname := q, hasDict := true, slotNames := sn, subclasses := sub, abstract := ab, collection := col, hasDel := false } := by unfold clsIn; rw [hC] <;> rfl
  have hlen : as.length = 2 := by have := congrArg List.length I.as_; simpa using this
  refine ks_codeAny_call_defAt (binds := [("self", .ref x), (pn, v)]) hroom (X _ _ ho) rfl hlim (codeRec_of X hcd) rfl (BindsTo.of_eq ?_) I.nocell ?_ (fun h₁ hns hk => ?_) I.co I.gen I.kind
  · have := Lit.bind_all (x := "__init__") (qual := qual) (body := [.Expr (.Call (.Attribute (.Call (.Name "super" a1) [] [] a2) "__init__" a3) [.Constant (.str msg) kk a4] [] a5) a6, .Assign [.Attribute (.Name "self" b1) fld b2] (.Name pn b3) b4]) (scope := sc) (kV := kV) (doc := doc) (pm := pm) (cdv := .ref cda) (ct := ct) (an := an) (as := as) (kwd := kwd) (dfl := dfl) (us := [.ref x, v]) (by simp [hlen]) (by rw [I.as_]; simp [I.ne])
    rw [I.as_] at this
    exact this
  · intro y hy
    rcases List.mem_cons.mp hy with rfl | hy
    · exact I.lself
    · rcases List.mem_cons.mp hy with rfl | hy
      · exact I.lpn
      · cases hy
  · have hxL : x ≠ s.heap.objs.size := Nat.ne_of_lt (Heap.lt_size hx)
    generalize hL : s.heap.objs.size = L at hns hxL
    have X₁ : K.In h₁ := X.keeps hk
    -- the ground, x and the globals' frames apart
    have hin0 : K.In (hideAll s.heap [x]) := fun a o e => hideAll_get _ (X _ _ e) (fun z => by
      have : a = x := by simpa using z
      rw [this, hnx] at e; cases e)
    have F : Fr (hideAll s.heap [x]) L h₁ (fun y => [(("self" : Str), Value.ref x), (pn, v)].reverse.lookup y) := ⟨hns, fun b o e => hk b o (of_hideAll _ e), by rw [hideAll_size, hL]; exact Nat.le_refl _⟩
    have Nw : News (hideAll s.heap [x]) L h₁ [(x, excObj C t0 none .none)] := fun p hp => by
      have e : p = (x, excObj C t0 none .none) := by simpa using hp
      rw [e]
      exact ⟨hk _ _ hx, hxL, hideAll_none _ (by simp)⟩
    have mself : ([(("self" : Str), Value.ref x), (pn, v)].reverse.lookup ("self" : Str)) = some (Value.ref x) := by
      have : (("self" : Str) == pn) = false := by simpa using I.ne
      simp [List.lookup, this]
    have mpn : ([(("self" : Str), Value.ref x), (pn, v)].reverse.lookup pn) = some v := by simp [List.lookup]
    show _root_.PySem.wpAt (model prog w) (A.deeper (ksEnv qual sc L fI (.ref cda) cc)) (.func _ (ksEnv qual sc L fI (.ref cda) cc)) (execs _ (ksEnv qual sc L fI (.ref cda) cc)) _ _ _
    have hint : interactive (ksEnv qual sc L fI (.ref cda) cc) = false := by simp [interactive, I.kind]
    refine ks_wpAt_execs_cons (ks_wpAt_Expr_any (ks_wpAt_MethodCall (pl := L2.plainOf (.Call (.Name "super" a1) [] [] a2) (ksEnv qual sc L fI (.ref cda) cc)) ?_ ?he) hint rfl)
    case he =>
      rw [arm_eval_Call]
      refine bind_congr fun ov => bind_congr fun _ => ?_
      exact L2.mcall_line rfl hline
    rcases as with _ | ⟨ar, _ | ⟨ar2, _ | _⟩⟩
    · cases hlen
    · cases hlen
    · have har : ar.arg = ("self" : Str) := by have := I.as_; simp at this; exact this.1
      refine ks_wpAt_super_base (env := ksEnv qual sc L fI (.ref cda) cc) I.lsup I.lcls (by decide) rfl (X₁ _ _ ho) rfl rfl rfl (X₁ _ _ hcode) rfl hvs hfile T.main ?_
      refine ks_loadName_global I.kind I.lsup (loadGlobal_builtin (env := ksEnv qual sc L fI (.ref cda) cc) (hg.keeps hk) T.gsup (hb.keeps hk) (hbt.trans (show bootBuiltins "super" = some (.type "super") by decide +kernel)) ⟨rfl, ?_⟩)
      refine wpAny_loadName_free I.kind I.lcls rfl ⟨_, X₁ _ _ hcell, rfl⟩ ?_
      rw [har]
      refine wpAny_loadName_local I.kind I.lself F.ns mself ?_
      refine ks_wpAny_isType_cls (X₁ _ _ hC) rfl ⟨rfl, ?_⟩
      refine ks_wpAny_call_super (X₁ _ _ hC) rfl (hk _ _ hx) rfl (fun c => nofun) (looks_mroIn X₁ T.mroC) (fun h2 e2 k2 => ?_)
      obtain ⟨hh, gg, dd0, tt, oss⟩ := s
      obtain ⟨F2, N2, l2⟩ := ks_newsPush (s := ⟨h₁, gg, dd0, tt + 2, oss⟩) F Nw rfl e2 k2
      have X2 : K.In h2 := X₁.keeps k2
      have hx2 : h2.get? x = some (excObj C t0 none .none) := k2 _ _ (hk _ _ hx)
      have I2 : InstAt h2 x (excObj C t0 none .none) C none := ⟨hx2, rfl, rfl, trivial⟩
      refine kxs_method kxs_ValueError (s := ⟨h2, gg, dd0, tt + 2, oss⟩) F2 hin0 N2 List.mem_cons_self I2 T.tp T.sup T.veC (by decide) (fun q' h3 F3 N3 l3 => ?_)
      have X3 : K.In h3 := hin0.keeps F3.keep
      refine kxs_callWith1 (i := "ValueError.__init__") (x := x) N3 List.mem_cons_self ?_ rfl rfl
      refine Calls.spliced_cons (Calls.Constant_str (k := kk) (pos := a4) (Calls.spliced_nil ⟨kxs_at N3 List.mem_cons_self, ?_⟩))
      have nsx : h₁.objs.size ≠ x := fun z => by
        have := l2 (x, excObj C t0 none .none) (by simp)
        rw [z] at this
        exact absurd this (Nat.lt_irrefl _)
      have nq : q' ≠ x := fun z => by
        have := l3 (x, excObj C t0 none .none) (by simp)
        rw [← z] at this
        exact absurd this (Nat.lt_irrefl _)
      refine kxs_call (t := t0) (dv := none) (c2 := .none) (bmB := [.type "ValueError", .type "Exception", .type "BaseException", .type "object"]) F3 hin0 N3 PySem.F.excBase_ValueError T.exI List.mem_cons_self (upd3 nq nsx) (one_size _) (fun t' h4 F4 N4 l4 => ?_)
      have hx4 : h4.get? x = some (excObj C t' none .none) := (N4 (x, excObj C t' none .none) (by simp)).1
      have X4 : K.In h4 := hin0.keeps F4.keep
      refine wpAt_of_wpAny (wpAny_execs_cons (plainObj_wpAny_Assign_Attribute ?_ Lit.sw_attr))
      refine wpAny_Name (wpAny_loadName_local I.kind I.lpn F4.ns mpn (wpAny_Name (wpAny_loadName_local I.kind I.lself F4.ns mself ?_) (by decide))) I.hd
      refine set_plain X4 (ox := excObj C t' none .none) (od := none) ⟨hx4, rfl, rfl, trivial⟩ T.sa ?_
      refine exc_osa X4 hx4 hcl (show refsVE (.ref C :: bm) = true from hbm) rfl T.noN (fun h5 tk5 dx k5' dn dne hx5 hn5 => ?_)
      have sz : hh.objs.size ≤ h4.objs.size := by
        have z : L < h4.objs.size := F4.ns.lt
        rw [← hL] at z
        exact Nat.le_of_lt z
      refine wpAny_execs_nil (hq h5 tk5 dx t' ⟨fun b o hb e => k5' b o hb (F4.keep b o (hideAll_get _ e (by simpa using hb))), hx5, Nat.le_trans sz dn, dne, hn5⟩)
    · cases hlen
end
end XI
end PySem
end
section
set_option maxHeartbeats 2000000
namespace PySem
namespace XI
open PySem.W PySem.Calls PyProof.Rows PySem.HandSPX
/-- a made one -/
structure OwnMade (fld : Str) (h h' : Heap) (e C d : Addr) (v : Value) : Prop where
  keep : ∀ b o, h.get? b = some o → h'.get? b = some o
  new : h.objs.size ≤ e
  obj : ∃ t1, h'.get? e = some { cls := .ref C, dict := some d, data := .fields #[.ref t1, .none, .none, .none, .bool false, .none] }
  dbig : h.objs.size ≤ d
  dne : d ≠ e
  ns : h'.Ns1 d (fun y => if y = fld then some v else none)
section
variable {prog : Program} {w : World} {A : Around} {E : Value → Shared → Prop} {R : Result → Shared → Prop} {s : Shared} {K : Frag} {mg mb : Str → Option Value} {nm fld : Str} {C fI : Addr}
theorem xmade (T : XTxt prog K mg nm C fI fld) {v : Value} (X : K.In s.heap) (hlim : s.heap.NoLimit) (hg : s.heap.Ns mainGlobals mg) (hb : s.heap.Ns builtinsNs mb) (hbt : mb "super" = bootBuiltins "super") (hroom : A.depth + 1 < recursionLimit)
    (hq : ∀ h' tk e d, OwnMade fld s.heap h' e C d v → R (.ok (.ret (.ref e))) { s with heap := h', toks := tk }) :
    codeAny (model prog w) A (.call (.ref C) ⟨[v], []⟩) R s := by
  obtain ⟨nm', q, N, bs, bm, sn, sub, ab, col, dd, k0, k1, k2, k3, k5, hC, hbm⟩ := T.cls
  obtain ⟨hp, g, dr, tk, os⟩ := s
  have k : ∀ b o, hp.get? b = some o → ((hp.push (kdv_tup [v])).push (excO C hp.objs.size)).get? b = some o := fun b o e => Heap.get?_push_of_some _ (Heap.get?_push_of_some _ e)
  have hget : ((hp.push (kdv_tup [v])).push (excO C hp.objs.size)).get? (hp.objs.size + 1) = some (excO C hp.objs.size) := by heap_get
  have hnx : K.lookup (hp.objs.size + 1) = none := by
    cases e : K.lookup (hp.objs.size + 1) with
    | none => rfl
    | some o =>
      have z : hp.get? (hp.objs.size + 1) = some o := X _ _ e
      exact absurd (Nat.lt_of_succ_lt (Heap.lt_size z)) (Nat.lt_irrefl _)
  refine call_own PySem.F.excBase_ValueError (fun X => refsVE_contains X bm hbm) (X _ _ hC) (looks_findIn X T.iC) (fun self => bind_fn X self T.tC) (one_size v) ?_
  refine xinit (s := ⟨(hp.push (kdv_tup [v])).push (excO C hp.objs.size), g, dr, tk, os⟩) T (X.keeps k) (hlim.keeps k) (hg.keeps k) (hb.keeps k) hbt hget hnx ?_ fun h' tk' dx t1 ⟨k', hx, dn, dne, hns⟩ => ?_
  · show A.depth + 1 < recursionLimit
    exact hroom
  · have old : ∀ b o, hp.get? b = some o → h'.get? b = some o := fun b o e => k' b o (Nat.ne_of_lt (Nat.lt_succ_of_lt (Heap.lt_size e))) (k b o e)
    have z : hp.objs.size + 1 + 1 ≤ dx := by
      first
        | (simpa only [Heap.size_push] using dn)
        | exact dn
        | (have q := dn; rw [Heap.size_push, Heap.size_push] at q; exact q)
    exact ⟨rfl, hq h' tk' (hp.objs.size + 1) dx ⟨old, Nat.le_succ _, ⟨_, hx⟩, Nat.le_trans (Nat.le_trans (Nat.le_succ _) (Nat.le_succ _)) z, dne, hns⟩⟩
end
end XI
end PySem
namespace L2
open PySem PySem.Spec PyProof.Rows
theorem relO_x {fld : Str} {v : V} {v' : Value} (r : RelV v v') (f : Str) : RelO (List.lookup f [(fld, v)]) (if f = fld then some v' else none) := by
  by_cases hw : f = fld
  · subst hw
    rw [if_pos rfl]
    have q : List.lookup f [(f, v)] = some v := by simp [List.lookup]
    rw [q]
    exact r
  · rw [if_neg hw]
    have qw : (f == fld) = false := by simpa using hw
    have q2 : List.lookup f [(fld, v)] = none := by simp [List.lookup, qw]
    rw [q2]
    trivial
section
variable {X : Cx} {C fI : Addr} {nm fld : Str}
/-- nm(e) -/
def tMkX (fld : Str) (C : Addr) (ta : TA) : St → Hp → XK → Prop := fun σ H Q => ta σ H fun vs H1 => ∃ v, vs = [v] ∧ ∀ d, H1 d = none → Q (.ref C) (some d) (upd H1 d (.xd [(fld, v)]))
theorem mkp_up {pins : List (Addr × Obj)} {σ : St} {Q : XK} {u : Value} {s' : Shared} (h : L2N.MkP X pins σ Q u s') : MkP X pins σ Q u s' := by
  obtain ⟨a, oe, vs, sI, H', cls, d, h1, h2, h3, h4, h5, h6, r⟩ := h
  exact ⟨a, oe, vs, sI, H', cls, d, h1, h2, h3, h4, h5, h6.zc, r⟩
theorem pmk_up {e : Expr} {t : St → Hp → XK → Prop} (h : L2H.PMk5 X e t) : PMk X e t := fun pins s σ H Q I q => thn (h pins s σ H Q I q) fun _ _ x => mkp_up x.1
theorem pmk5_x {a : Expr} {ta : TA} {p pos : Pos} {k : Nat} (T : PySem.XI.XTxt X.prog X.K X.mg nm C fI fld) (hr : L2H.RoomH k X.A) (ha : PA X [a] ta) (hg : Gl X nm) (hd : (nm == ("__debug__" : Str)) = false)
    (he : starEach (a :: []) X.env = (false, eval a X.env) :: starEach [] X.env) :
    L2H.PMk5 X (.Call (.Name nm p) [a] [] pos) (tMkX fld C ta) := by
  intro pins s σ H Q I h
  refine wpAny_Call_Name_kw (ld_glob I hg T.gC ?_ hd)
  refine PySem.W.callWith_K (h₀ := X.base) I.ok.mod.kin T.kC (thn (ha.run pos pins s σ H _ I h) fun us s1 hh => ?_) he rfl
  obtain ⟨vs, H1, I1, r1, v, ev, q1⟩ := hh
  subst ev
  refine ⟨I1.kIn, ?_⟩
  cases r1 with
  | cons rv rn =>
    rename_i v' us'
    cases rn
    show wpAny _ _ (call (.ref C) [v']) _ _ _
    have hlim := I1.nolimit
    obtain ⟨mb, hb, hbt⟩ := I1.ok.mod.blt
    have hgl := I1.ok.mod.glob
    have kb := I1.bk
    obtain ⟨hp, g, dr, tk, os⟩ := s1
    refine wpAny_call (PySem.XI.xmade T I1.kIn hlim (hgl.keeps kb) (hb.keeps kb) (hbt _ (by decide)) (by have := hr.dp; omega) fun h' tk' e d M => ?_)
    show L2N.MkP X pins σ Q (.ref e) ⟨h', g, dr, tk', os⟩ ∧ L2H.Six (.ref e) ⟨h', g, dr, tk', os⟩
    obtain ⟨t1, hoe⟩ := M.obj
    refine ⟨?_, fun a oe vs ea hg hd => ?_⟩
    · have hns := M.ns
      obtain ⟨G', g1, g2⟩ := restrict h' fun b => decide (b ≠ e)
      have gk : ∀ b, b ≠ e → G'.get? b = h'.get? b := fun b hb => g1 b (decide_eq_true hb)
      have ge : G'.get? e = none := g2 e (by simp)
      have old : ∀ b o, hp.get? b = some o → G'.get? b = some o := fun b o q => (gk b (Nat.ne_of_lt (Nat.lt_of_lt_of_le (Heap.lt_size q) M.new))).trans (M.keep b o q)
      have ob : ObjOk X.prog X.w (upd H1 d (.xd [(fld, v)])) G' d (.xd [(fld, v)]) :=
        ⟨_, hns.at (fun o q => (gk d M.dne).trans q), fun f => relO_x rv f⟩
      have J : Inv X pins σ (upd H1 d (.xd [(fld, v)])) ⟨G', g, dr, tk', os⟩ := I1.laid (t' := tk') old M.dbig ob
      refine ⟨e, _, _, ⟨G', g, dr, tk', os⟩, _, .ref C, some d, rfl, J, fun b o q => ?_, ge, hoe, ⟨rfl, rfl, fun vs e => by cases e; rfl⟩, rfl, rfl, ?_, rfl, I1.bare, raises_own T.exC T.tyC, q1 d (I1.hok.fresh M.dbig)⟩
      · by_cases hb : b = e
        · have q' : G'.get? b = some o := q
          rw [hb, ge] at q'; cases q'
        · exact (gk b hb).symm.trans q
      · rw [upd_ne (Ne.symm M.dne)]
        exact I1.hok.fresh M.new
    · cases ea
      have he' : h'.get? e = some oe := hg
      rw [hoe] at he'
      cases he'
      cases hd
      show (4 : Nat) < 6
      decide
theorem pmk5_ownA {C : Addr} {bmB : List Value} {B newId initId : String} {x : Str} {p pos : Pos} {e : Expr} {es : List Expr} {t : TA} (F : ExcBaseFacts B newId initId bmB) (q : PySem.W.excIn X.K C bmB newId = true) (gC : X.mg x = some (.ref C))
    (kC : PySem.W.keepIn X.K (.ref C) = true) (r : Raises X (.ref C)) (hg : Gl X x) (ha : PA X (e :: es) t) (hdb : (x == ("__debug__" : Str)) = false)
    (he : starEach (e :: es) X.env = (false, eval e X.env) :: starEach es X.env) (hpl : (backTo pos (starEach es X.env)).any (·.1) = false) :
    L2H.PMk5 X (.Call (.Name x p) (e :: es) [] pos) (fun σ H Q => t σ H fun vs H1 => vs.length ≤ sizeLine ∧ Q (.ref C) none H1) := by
  intro pins s σ H Q I h
  refine wpAny_Call_Name_kw (ld_glob I hg gC ?_ hdb)
  refine PySem.W.callWith_K (h₀ := X.base) I.ok.mod.kin kC (thn (ha.run pos pins s σ H _ I h) fun us s1 ⟨vs, H1, I1, r1, hz, q1⟩ => ⟨I1.kIn, ?_⟩) he hpl
  show wpAny _ _ (call (.ref C) us) _ _ _
  obtain ⟨bm, N, nm, qn, bs, hdct, sn, sub, ab, col, dd, k0, k1, k2, k3, k5, mN, hC, hN, hni, T⟩ := exc_obj I1.kIn q
  refine wpAny_call_exc_subT F T hC hN hni (fun h' e hm => ?_) (by rw [← r1.length]; exact hz)
  exact L2H.mk_of5 I1 hm r q1 (I1.hok.gone hm.new)
end
end L2
end
section
set_option maxHeartbeats 4000000
namespace PySem
namespace XI
open PySem.W PySem.Spec PySem.Calls PyProof.Rows
section
variable {prog : Program} {w : World} {A : Around} {E : Value → Shared → Prop} {s : Shared} {K : Frag} {x D : Addr} {ox : Obj} {od : Option Obj}
theorem findObj_dataX {C : Addr} {name : Str} {a g : Value} (hc : (clsIn K C).isSome = true) (ha : findIn K (.ref C) name = some (some a)) (hg : specialIn K a "__get__" = some (some g)) (ht : takesIn K a = some true) : findObj K C od name = some (.bind g a) := by
  obtain ⟨cd, hc⟩ := Option.isSome_iff_exists.mp hc
  unfold findObj
  rw [hc, Option.bind_some, ha, Option.bind_some]
  simp [hg, ht]
theorem kin_classX {Q : Option Value → Shared → Prop} (hga : findIn K (.ref D) "__getattribute__" = some (some (.builtin "BaseException.__getattribute__"))) (hgt : findIn K (.ref D) "__getattr__" = some none) (hsub : subIn K (.ref D) (.type "BaseException") = some true)
    (hdct : hasDictIn K D = true) (ha : findIn K (.ref D) "__class__" = some (some (.builtin "object.__class__")))
    (hn : specialIn K (.builtin "object.__class__") "__get__" = some (some (.builtin "getset_descriptor.__get__"))) (htk : takesIn K (.builtin "object.__class__") = some true) (hm : mroIn K D (.type "object") = some true)
    (X : K.In s.heap) (I : InstAt s.heap x ox D od) (h : Q (some (.ref D)) { s with toks := s.toks + 1 }) : wpAny (model prog w) A (getAttr? (.ref x) "__class__") Q E s := by
  have hf : findObj K D od "__class__" = some (.bind (.builtin "getset_descriptor.__get__") (.builtin "object.__class__")) := findObj_dataX (by obtain ⟨cd, hc, _⟩ := any_some hdct; rw [hc]; rfl) ha hn htk
  obtain ⟨hp, g, d, t, os⟩ := s
  have L0 := I.type (M := model prog w)
  have L1 := looks_findIn (M := model prog w) X hga
  have L2 := looks_findIn (M := model prog w) X hgt
  have L3 := looks_find (M := model prog w) X I hf
  have sub : Looks (model prog w) hp (isInstance (.ref x) (.type "BaseException")) true := L0.andThen (looks_subIn X hsub)
  have hx0 : (false && onTheHeap (Value.builtin "BaseException.__getattribute__")) = false := rfl
  have hx2 : (Value.builtin "BaseException.__getattribute__" == Value.builtin "object.__getattribute__") = false := by decide +kernel
  have hx1 : (onTheHeap (Value.ref D) && Value.builtin "BaseException.__getattribute__" == Value.builtin "object.__getattribute__") = false := by rw [hx2]; rfl
  unfold getAttr? getAttrBy? getAttrBy
  refine wpAny_bind (wpAny_mkText (wpAny_bind (wpAny_attempt (wpAny_holding (wpAny_bind (L0.at (wpAny_bind (L1.at ?_))))))))
  show wpAny _ _ (if (onTheHeap (Value.ref D) && Value.builtin "BaseException.__getattribute__" == Value.builtin "object.__getattribute__") = true then _ else _) _ _ _
  rw [hx1, if_neg Bool.false_ne_true]
  unfold getAttrByItsOwn hookBefore
  refine wpAny_bind ?_
  rw [if_pos (show onTheHeap (Value.ref D) = true from rfl)]
  refine L2.at ?_
  refine wpAny_bind (wpAny_attempt (wpAny_holding ?_))
  unfold callGetattribute
  rw [hx0, if_neg Bool.false_ne_true]
  unfold boundAndCalled
  rw [PySem.F.excAttr_ValueError.ga.bind (.ref x)]
  refine wpAny_bind (wpAny_pure ?_)
  show wpAny _ _ (call (.builtin "BaseException.__getattribute__") [.ref x, .str "__class__" t]) _ _ _
  refine wpAny_call (codeAny_call_builtin PySem.F.excAttr_ValueError.ga.plain PySem.F.entry_bexc_ga ?_)
  refine @check_slot (model prog w) _ _ ⟨hp, g, d, t + 1, os⟩ "BaseException.__getattribute__" "BaseException" "__getattribute__" (.ref x) [.str "__class__" t] [] _ (by decide +kernel) (by decide +kernel) sub (PySem.F.args_bexc_ga (.ref x) (.str "__class__" t)) ?_
  unfold Builtin.«object.__getattribute__»
  refine wpAny_bind (wpAny_of_eq (a := ((Value.ref x : Value), [Value.str "__class__" t])) (by first | rfl | (simp only [slotArgs]; rfl)) ?_)
  refine wpAny_bind (wpAny_pure (wpAny_bind (L0.at (wpAny_bind (L3.at ?_)))))
  show wpAny _ _ (holding [Value.builtin "object.__class__"] (call (.builtin "getset_descriptor.__get__") [.builtin "object.__class__", .ref x, .ref D]) >>= ret) _ _ _
  refine wpAny_bind (wpAny_holding (wpAny_call (class_get (s := ⟨hp, g, d, t + 1, os⟩) (ox := ox) (od := od) X I hm ?_)))
  refine wpAny_pure ?_
  show wpAny _ _ (handedOut (.ref D)) _ _ _
  rw [handedOut_of (v := .ref D) rfl]
  first
    | exact wpAny_pure (wpAny_pure h)
    | exact wpAny_pure h
    | exact wpAny_pure (wpAny_bind (wpAny_pure (wpAny_pure h)))
theorem kitx_excX (hga : findIn K (.ref D) "__getattribute__" = some (some (.builtin "BaseException.__getattribute__"))) (hgt : findIn K (.ref D) "__getattr__" = some none) (hsub : subIn K (.ref D) (.type "BaseException") = some true) (hdct : hasDictIn K D = true) (ha : findIn K (.ref D) "__class__" = some (some (.builtin "object.__class__")))
    (hn : specialIn K (.builtin "object.__class__") "__get__" = some (some (.builtin "getset_descriptor.__get__"))) (htk : takesIn K (.builtin "object.__class__") = some true) (hm : mroIn K D (.type "object") = some true) :
    KitX K (.ref x) (.ref D) (fun h => InstAt h x ox D od) where
  ty := fun _ _ _ I => I.type
  it := fun _ _ X _ => by
    obtain ⟨cdD, hcD, _⟩ := any_some hdct
    unfold clsIn at hcD
    split at hcD
    · rename_i c' d' cd' sl' ho
      intro A' Q' E' s' k q
      unfold isType loadHead
      exact wpAny_bind (wpAny_loadPart (k _ _ (X _ _ ho)) (wpAny_pure q))
    · cases hcD
  ne := fun h tp dd its n sl X htp => by
    obtain ⟨cdD, hcD, _⟩ := any_some hdct
    refine Bool.eq_false_iff.mpr fun q => ?_
    have e : D = tp := Value.ref.inj (beq_iff_eq.mp q)
    subst e
    unfold clsIn at hcD
    split at hcD
    · rename_i c' d' cd' sl' ho
      have z := (X _ _ ho).symm.trans htp
      cases z
    · cases hcD
  ca := fun X I k => kin_classX hga hgt hsub hdct ha hn htk hm X I k
end
end XI
end PySem
namespace L2
open PySem PySem.Spec PyProof.Rows
theorem call_isX {X : Cx} {a D : Addr} {oe : Obj} {d : Option Addr} {pn : List (Addr × Obj)} (C : ExcC X.K D) (hz : Zc (.ref D) d oe) (hf : ∃ vs, oe.data = .fields vs) :
    CallR (X.suite a ((a, oe) :: pn)) (.builtin "isinstance") (fun xs H Q => ∃ (c : V) (cv : Value) (b : Bool), xs = [.ref a, c] ∧ (∀ u, RelV c u → u = cv) ∧ PySem.W.kitOne X.K (.ref D) cv = some b ∧ (∀ dd, d = some dd → ∃ fs, H dd = some (.xd fs)) ∧ Q (.bl b) H) := by
  intro pins s σ H xs us Q I r h
  obtain ⟨c, cv, b, rfl, hcv, e, hdd, q⟩ := h
  cases r with
  | cons rx rr =>
    cases rr with
    | cons rt rr =>
      cases rr
      cases rx
      have ec := hcv _ rt
      subst ec
      obtain ⟨hget, _⟩ := I.pin (a, oe) (List.mem_append.mpr (.inl List.mem_cons_self))
      obtain ⟨vs, hv⟩ := hf
      have J : ∃ od, PySem.W.InstAt s.heap a oe D od := by
        cases d with
        | none =>
          refine ⟨none, ?_⟩
          obtain ⟨oc, od, oda, osl⟩ := oe
          obtain ⟨h1, h2⟩ := hz
          dsimp only at h1 h2 hv
          subst h1 h2 hv
          exact ⟨hget, rfl, rfl, trivial⟩
        | some dd =>
          obtain ⟨fs, hfs⟩ := hdd dd rfl
          have hx : ObjOk X.prog X.w H s.heap dd (.xd fs) := I.hok dd _ hfs
          obtain ⟨mA, hns, hr⟩ := hx
          obtain ⟨od, ho, hl⟩ := lookIn_ns hns
          exact ⟨some od, hget, hz.1, by unfold PySem.W.notCls; rw [hv] <;> rfl, by rw [hz.2]; exact ho⟩
      obtain ⟨od, J⟩ := J
      exact PySem.W.kia_one (PySem.XI.kitx_excX C.hg C.hk C.hs C.hd C.ha C.hn C.ht C.hm) I.kIn J e (fun z => nomatch z) fun tk => ⟨.bl b, H, I.kept (t' := tk) fun _ _ z => z, rfl, q⟩
end L2
end
section
set_option maxHeartbeats 4000000
namespace Lit
open PySem L2 PyProof.Rows
/-- what the written part says of the own errors -/
structure XF (T : Tb) (P : Pg) (prog : Program) (mg : Str → Option Value) : Prop where
  own : ∀ c, P.isx c = true → P.xin c = true → ∃ fI fld, T.xfl c = [fld] ∧ PySem.XI.XTxt prog T.K mg (P.xnm c) (T.xad c) fI fld
  plain : ∀ c, P.isx c = true → P.xin c = false → T.xfl c = [] ∧ PySem.W.excIn T.K (T.xad c) [.type "ValueError", .type "Exception", .type "BaseException", .type "object"] "ValueError.__new__" = true ∧ mg (P.xnm c) = some (.ref (T.xad c)) ∧ PySem.W.keepIn T.K (.ref (T.xad c)) = true ∧
    PySem.W.subIn T.K (.ref (T.xad c)) (.type "BaseException") = some true ∧ PySem.W.typeIn T.K (.ref (T.xad c)) = some (.type "type")
  mkx : ∀ c ds fs, P.mkx c ds = some fs → P.isx c = true ∧ ds.length = 1 ∧ ((P.xin c = true ∧ fs = ds) ∨ (P.xin c = false ∧ fs = []))
section
variable {T : Tb} {F : Fr} {W : WX} {X : Cx} {P : Pg} {cl : Bool} {a : Expr} {es : List Expr} {pos pos2 p : Pos} {k : Nat}
def raiseF (P : Pg) (c : Nat) (g : Stt → Out (List D)) (st : Stt) : Out Flow' := (g st).bind fun ds s => match P.mkx c ds with
    | some fs => .exc ⟨c, fs⟩ s
    | none => .bad
/-- X(a) by its class's kind: what is made, told in one way -/
theorem mk_read {c : Nat} {g : Stt → Out (List D)} (S : XF T P X.prog X.mg) (hK : X.K = T.K) (hx : P.isx c = true) (hr : L2H.RoomH k X.A) (ha : PA X [a] (TA' T F W g)) (hg : Gl X (P.xnm c)) (hd : ((P.xnm c) == ("__debug__" : Str)) = false)
    (he : starEach (a :: []) X.env = (false, eval a X.env) :: starEach [] X.env) : ∃ t, L2H.PMk5 X (.Call (.Name (P.xnm c) p) [a] [] pos) t ∧
      ∀ (Z : Ends) (σ : L2.St) (H : Hp), TS' T F W (raiseF P c g) Z σ H → t σ H fun cls d H' => W cls d σ H' := by
  cases hi : P.xin c with
  | true =>
    obtain ⟨fI, fld, ef, TX⟩ := S.own c hx hi
    rw [← hK] at TX
    refine ⟨_, pmk5_x TX hr ha hg hd he, fun Z σ H ⟨ι, Hs, st, R, h⟩ => ?_⟩
    refine PostS.first (rep := rA T) R h fun ι1 Hs1 H1 st1 vs ds p1 e1 R1 r1 h1 => ?_
    cases hm : P.mkx c ds with
    | none => simp only [hm] at h1; exact h1.elim
    | some fs =>
      simp only [hm] at h1
      obtain ⟨_, hl, ⟨_, rfl⟩ | ⟨hi', _⟩⟩ := S.mkx c ds fs hm
      · cases r1 with
        | nil => cases hl
        | @cons v d1 vs' ds' rv rr =>
          cases rr with
          | cons _ _ => simp at hl
          | nil =>
            refine ⟨v, rfl, fun d hd => ?_⟩
            have nHs := (R1.s.fresh hd).1
            refine h1 ι1 (upd Hs1 d (.xd [(fld, v)])) (upd H1 d (.xd [(fld, v)])) σ _ _ (List.prefix_refl _) (same_upd nHs) (R1.alloc hd) ⟨rfl, (fun z => nomatch z), fun _ => ⟨d, _, [v], rfl, upd_same, ?_, .cons (rv.up (same_upd nHs) (List.prefix_refl _)) .nil⟩⟩
            rw [ef]
            refine ⟨by simp [List.lookup], fun m hm => ?_⟩
            have : (m == fld) = false := by simpa using hm
            simp [List.lookup, this]
      · rw [hi] at hi'; cases hi'
  | false =>
    obtain ⟨ef, q1, q2, q3, q4, q5⟩ := S.plain c hx hi
    rw [← hK] at q1 q3 q4 q5
    refine ⟨_, pmk5_ownA PySem.F.excBase_ValueError q1 q2 q3 (raises_own q4 q5) hg ha hd he rfl, fun Z σ H ⟨ι, Hs, st, R, h⟩ => ?_⟩
    refine PostS.first (rep := rA T) R h fun ι1 Hs1 H1 st1 vs ds p1 e1 R1 r1 h1 => ?_
    cases hm : P.mkx c ds with
    | none => simp only [hm] at h1; exact h1.elim
    | some fs =>
      simp only [hm] at h1
      obtain ⟨_, hl, ⟨hi', _⟩ | ⟨_, rfl⟩⟩ := S.mkx c ds fs hm
      · rw [hi] at hi'; cases hi'
      · have hz : vs.length ≤ sizeLine := by rw [line_eq, r1.length, hl]; decide
        exact ⟨hz, h1 ι1 Hs1 H1 σ _ _ (List.prefix_refl _) (Same.refl _) R1 ⟨rfl, fun _ => rfl, fun z => absurd rfl z⟩⟩
theorem ts_raise {c : Nat} {g : Stt → Out (List D)} (S : XF T P X.prog X.mg) (hK : X.K = T.K) (hc : X.calm = true) (hx : P.isx c = true) (hr : Room k X.A) (tk : TkB cl X W) (ha : PA X [a] (TA' T F W g)) (hg : Gl X (P.xnm c)) (hd : ((P.xnm c) == ("__debug__" : Str)) = false)
    (he : starEach (a :: []) X.env = (false, eval a X.env) :: starEach [] X.env) : PS X (.Raise (some (.Call (.Name (P.xnm c) p) [a] [] pos)) none pos2) (TS' T F W (raiseF P c g)) := by
  obtain ⟨t, ht, hq⟩ := mk_read (p := p) (pos := pos) S hK hx (L2H.roomH_of hr) ha hg hd he
  cases cl with
  | true => exact PS.imp (L2N.ps_raise hc tk ht.pmk) hq
  | false => exact PS.imp (L2.ps_raise hc tk (pmk_up ht)) hq
/-- .. from None, in a clause -/
theorem ts_raiseN {c : Nat} {j : Nat} {cpos : Pos} {g : Stt → Out (List D)} (S : XF T P X.prog X.mg) (hK : X.K = T.K) (hc : L2H.HotC X) (hx : P.isx c = true) (hr : L2H.RoomH k X.A) (tk : L2.Takes X W) (ha : PA X [a] (TA' T F W g)) (hg : Gl X (P.xnm c)) (hd : ((P.xnm c) == ("__debug__" : Str)) = false)
    (he : starEach (a :: []) X.env = (false, eval a X.env) :: starEach [] X.env) : PS X (.Raise (some (.Call (.Name (P.xnm c) p) [a] [] pos)) (some (.Constant .none j cpos)) pos2) (TS' T F W (raiseF P c g)) := by
  obtain ⟨t, ht, hq⟩ := mk_read (p := p) (pos := pos) S hK hx hr ha hg hd he
  exact PS.imp (L2H.ps_raiseHN hc tk ht) hq
end
end Lit
end
section
set_option maxHeartbeats 4000000
namespace Lit
open PySem L2 PyProof.Rows
structure XG (T : Tb) (P : Pg) (mg : Str → Option Value) : Prop where
  gx : ∀ c, P.isx c = true → mg (P.xnm c) = some (.ref (T.xad c))
  exm : ∀ c h, P.isx c = true → P.isx h = true → PySem.W.exmOne T.K (.ref (T.xad c)) (.ref (T.xad h)) = some (P.xsub c h)
  kic : ∀ c m, P.isx c = true → P.isx m = true → PySem.W.kitOne T.K (.ref (T.xad c)) (.ref (T.xad m)) = some (P.xsub c m)
  kiv : ∀ c, P.isx c = true → PySem.W.kitOne T.K (.ref (T.xad c)) (.type "ValueError") = some true
  exc : ∀ c, P.isx c = true → ExcC T.K (T.xad c)
  xfc : ∀ c, P.isx c = true → XfC T.K (T.xad c)
  noa : ∀ c f, P.isx c = true → f ∈ T.xfl c → PySem.W.findIn T.K (.ref (T.xad c)) f = some none
  xfd : ∀ c, P.xfd c = T.xfl c
  gis : mg "isinstance" = none
  gve : mg "ValueError" = none
def isiB (P : Pg) (N : List Str) (sc : List (Str × NameKind)) (i : Nat) (ty : XTy) : Expr → Bool
  | .Call (.Name x _) [.Name n _, .Name c _] [] _ => decide (x = "isinstance") && decide (N[i]? = some n) && visB sc n && nmB n && glB sc x && glB sc c && nmB c && (match ty with
    | .c m => decide (c = P.xnm m) && P.isx m
    | .ve => decide (c = "ValueError"))
  | _ => false
def oneB (P : Pg) (N : List Str) (sc : List (Str × NameKind)) (i : Nat) (t : Bool × XTy) (e : Expr) : Bool := match t.1 with
  | true => isiB P N sc i t.2 e && plainT e
  | false => match e with
    | .UnaryOp .Not e' _ => isiB P N sc i t.2 e' && plainT e'
    | _ => false
def onesB (P : Pg) (N : List Str) (sc : List (Str × NameKind)) (i : Nat) : List (Bool × XTy) → List Expr → Bool
  | [], [] => true
  | t :: ts, e :: es => oneB P N sc i t e && onesB P N sc i ts es
  | _, _ => false
def tstB (P : Pg) (N : List Str) (sc : List (Str × NameKind)) (i : Nat) (ts : List (Bool × XTy)) (e : Expr) : Bool := match ts with
  | [t] => oneB P N sc i t e
  | [t, u] => (match e with
    | .BoolOp .And [a, b] _ => oneB P N sc i t a && oneB P N sc i u b
    | _ => false)
  | _ => false
def hisB (N : List Str) (sc : List (Str × NameKind)) (i : Nat) : List HI → List Expr → Bool
  | [], [] => true
  | .c d :: hs, .Constant c _ _ :: es => constB d c && hisB N sc i hs es
  | .f x :: hs, .Attribute (.Name n _) y _ :: es => decide (x = y) && decide (N[i]? = some n) && visB sc n && nmB n && hisB N sc i hs es
  | _, _ => false
def suB (P : Pg) (N : List Str) (sc : List (Str × NameKind)) (i : Nat) : List (List (Bool × XTy) × List HI) → List HI → List Stmt → Bool
  | [], last, [.Return (some (.Tuple es _ _)) _] => hisB N sc i last es
  | (ts, hs) :: r, last, .If test [.Return (some (.Tuple es _ _)) _] [] _ :: rest => tstB P N sc i ts test && hisB N sc i hs es && suB P N sc i r last rest
  | _, _, _ => false
/-- the caught error, as the suite sees it -/
structure HX (T : Tb) (P : Pg) (i : Nat) (a : Addr) (cls : Value) (d : Option Addr) (x : Exc) (ι : List Addr) (Hs : Hp) (σ : L2.St) (H : Hp) : Prop where
  isx : P.isx x.c = true
  sl : σ[i]? = some (some (.ref a))
  sm : Same Hs H
  ex : ExcR T Hs ι cls d x
section
variable {T : Tb} {P : Pg} {X : Cx} {N : List Str} {sc : List (Str × NameKind)} {i : Nat} {a : Addr} {oe : Obj} {cls : Value} {d : Option Addr} {pn : List (Addr × Obj)} {x : Exc}
theorem HX.dict {ι : List Addr} {Hs H : Hp} {σ : L2.St} (h : HX T P i a cls d x ι Hs σ H) : ∀ dd, d = some dd → ∃ fs, H dd = some (.xd fs) := fun dd e => by
  by_cases hz : x.fs = []
  · rw [h.ex.2.1 hz] at e; cases e
  · obtain ⟨d', fs, vs, e2, e3, _⟩ := h.ex.2.2 hz
    rw [e] at e2
    cases e2
    exact ⟨fs, h.sm _ _ e3⟩
/-- what a pure test of the caught error says -/
def tHX (T : Tb) (P : Pg) (i : Nat) (a : Addr) (cls : Value) (d : Option Addr) (x : Exc) (b : Bool) : TT := fun σ H Q => (∃ ι Hs, HX T P i a cls d x ι Hs σ H) ∧ Q b H
theorem pt_isi (S : XG T P X.mg) (hK : X.K = T.K) (hN : X.N = N) (hsc : X.env.scope.names = sc) (hx : P.isx x.c = true) (hz : Zc cls d oe) (hf : ∃ vs, oe.data = .fields vs) (hcl : cls = .ref (T.xad x.c)) {ty : XTy} {e : Expr} (h : isiB P N sc i ty e = true) (hp : plainT e = true) :
    PT (X.suite a ((a, oe) :: pn)) e (tHX T P i a cls d x (xtB P x.c ty)) := by
  unfold isiB at h
  split at h
  · next nm p n p1 c p2 pos =>
    simp only [Bool.and_eq_true, decide_eq_true_eq] at h
    obtain ⟨⟨⟨⟨⟨⟨⟨rfl, h2⟩, h3⟩, h4⟩, h5⟩, h6⟩, h7⟩, h8⟩ := h
    subst hcl
    rw [← hN] at h2
    rw [← hsc] at h3 h5 h6
    have key : ∃ (v : V) (u : Value), PE (X.suite a ((a, oe) :: pn)) (.Name c p2) (tC v) ∧ (∀ u', RelV v u' → u' = u) ∧ PySem.W.kitOne T.K (.ref (T.xad x.c)) u = some (xtB P x.c ty) := by
      cases ty with
      | c m =>
        simp only [Bool.and_eq_true, decide_eq_true_eq] at h8
        obtain ⟨rfl, hm⟩ := h8
        exact ⟨.ref (T.xad m), .ref (T.xad m), pe_glob (gl_of (X := X) h6) (S.gx m hm) rfl (nmB_of h7).1, fun u' r => r, S.kic _ _ hx hm⟩
      | ve =>
        have h8 : c = "ValueError" := by simpa using h8
        subst h8
        exact ⟨.ty "ValueError", .type "ValueError", pe_bltn (gl_of (X := X) h6) S.gve (show bootBuiltins "ValueError" = some (.type "ValueError") by decide +kernel) rfl (by decide) (nmB_of h7).1, fun u' r => r, S.kiv _ hx⟩
    obtain ⟨v, u, pe, hu, hk⟩ := key
    have C := S.exc x.c hx
    rw [← hK] at C
    have pv : PE (X.suite a ((a, oe) :: pn)) (.Name n p1) (tVar i) := pe_var h2 (vis_of (sc := X.env.scope) h3) (nmB_of h4).1 (nmB_of h4).2
    have call := pe_callB (p := p) (pos := pos) (call_isX (X := X) (pn := pn) C hz hf) (gl_of (X := X) h5) S.gis (show bootBuiltins "isinstance" = some (.builtin "isinstance") by decide +kernel) (pa_cons pv (pa_cons pe pa_nil rfl) rfl) (by decide) (by decide) rfl rfl
    refine PT.imp (pt_val call (plainT_of hp)) fun σ H Q ⟨⟨ι, Hs, hh⟩, q⟩ => ?_
    refine ⟨_, hh.sl, v, u, xtB P x.c ty, rfl, hu, by rw [hK]; exact hk, hh.dict, ?_⟩
    exact ⟨_, rfl, q⟩
  · cases h
theorem pt_oneX (S : XG T P X.mg) (hK : X.K = T.K) (hN : X.N = N) (hsc : X.env.scope.names = sc) (hx : P.isx x.c = true) (hz : Zc cls d oe) (hf : ∃ vs, oe.data = .fields vs) (hcl : cls = .ref (T.xad x.c)) {t : Bool × XTy} {e : Expr} (h : oneB P N sc i t e = true) :
    PT (X.suite a ((a, oe) :: pn)) e (tHX T P i a cls d x (xtB P x.c t.2 == t.1)) := by
  obtain ⟨b, ty⟩ := t
  unfold oneB at h
  cases b with
  | true =>
    simp only [Bool.and_eq_true] at h
    have := pt_isi (a := a) (pn := pn) S hK hN hsc hx hz hf hcl h.1 h.2
    refine PT.imp this fun σ H Q z => ?_
    simpa using z
  | false =>
    simp only at h
    split at h
    · simp only [Bool.and_eq_true] at h
      refine PT.imp (pt_not (pt_isi (a := a) (pn := pn) S hK hN hsc hx hz hf hcl h.1 h.2)) fun σ H Q z => ?_
      have e : (xtB P x.c ty == false) = !xtB P x.c ty := by cases xtB P x.c ty <;> rfl
      refine ⟨z.1, ?_⟩
      have z2 := z.2
      simp only [e] at z2
      exact z2
    · cases h
theorem pt_tst (S : XG T P X.mg) (hK : X.K = T.K) (hN : X.N = N) (hsc : X.env.scope.names = sc) (hx : P.isx x.c = true) (hz : Zc cls d oe) (hf : ∃ vs, oe.data = .fields vs) (hcl : cls = .ref (T.xad x.c)) {ts : List (Bool × XTy)} {e : Expr} (h : tstB P N sc i ts e = true) :
    PT (X.suite a ((a, oe) :: pn)) e (tHX T P i a cls d x (ts.all fun t => xtB P x.c t.2 == t.1)) := by
  unfold tstB at h
  split at h
  · refine PT.imp (pt_oneX (a := a) (pn := pn) S hK hN hsc hx hz hf hcl h) fun σ H Q z => ?_
    simpa using z
  · next t u =>
    split at h
    · simp only [Bool.and_eq_true] at h
      have w := pw_and (pos := ‹Pos›) (pt_oneX (a := a) (pn := pn) S hK hN hsc hx hz hf hcl h.1) (pw_and1 (pos := ‹Pos›) (pt_oneX (a := a) (pn := pn) S hK hN hsc hx hz hf hcl h.2))
      refine PT.imp w.pt fun σ H Q z => ?_
      refine ⟨z.1, ?_⟩
      have z2 := z.2
      simp only [List.all_cons, List.all_nil, Bool.and_true] at z2
      cases e1 : (xtB P x.c t.2 == t.1) with
      | true =>
        rw [e1, Bool.true_and] at z2
        simp only [if_true]
        exact ⟨z.1, z2⟩
      | false =>
        rw [e1, Bool.false_and] at z2
        simp only [Bool.false_eq_true, if_false]
        exact z2
    · cases h
  · cases h
theorem konstX {Y : Cx} {dd : D} {c : Const} {j : Nat} {pos : Pos} (h : constB dd c = true) : ∃ v, PE Y (.Constant c j pos) (tC v) ∧ ∀ Hs ι, Rp T Hs ι v dd := by
  cases dd <;> cases c <;> first | cases h | skip
  · exact ⟨_, pe_non, fun _ _ => .non⟩
  · next b c =>
    have e : b = c := by simpa [constB] using h
    subst e
    exact ⟨_, pe_bl, fun _ _ => .bl _⟩
  · next b c =>
    have e : b = c := by simpa [constB] using h
    subst e
    exact ⟨_, pe_int, fun _ _ => .int _⟩
  · next b c =>
    have e : b = c := by simpa [constB] using h
    subst e
    exact ⟨_, pe_str, fun _ _ => .str _⟩
/-- the items of the tuple that is handed back -/
def tHI (T : Tb) (P : Pg) (i : Nat) (a : Addr) (cls : Value) (d : Option Addr) (x : Exc) (ds : List D) : TA := fun σ H Q => ∃ ι Hs, HX T P i a cls d x ι Hs σ H ∧ ∀ vs, RpL T Hs ι vs ds → Q vs H
theorem pa_his (S : XG T P X.mg) (hK : X.K = T.K) (hN : X.N = N) (hsc : X.env.scope.names = sc) (hx : P.isx x.c = true) (hz : Zc cls d oe) (hf : ∃ vs, oe.data = .fields vs) (hcl : cls = .ref (T.xad x.c)) :
    ∀ {hs : List HI} {es : List Expr} {ds : List D}, hisB N sc i hs es = true → hiD P x hs = some ds → PA (X.suite a ((a, oe) :: pn)) es (tHI T P i a cls d x ds)
  | [], [], ds, _, hd => by
    cases hd
    exact PA.imp pa_nil fun σ H Q ⟨ι, Hs, hh, k⟩ => k [] .nil
  | [], _ :: _, _, h, _ => by cases h
  | .c dd :: hs, [], _, h, _ => by cases h
  | .f f :: hs, [], _, h, _ => by cases h
  | .c dd :: hs, e :: es, ds, h, hd => by
    cases e <;> first | cases h | skip
    next c j pos =>
    simp only [hisB, Bool.and_eq_true] at h
    simp only [hiD, Option.map_eq_some_iff] at hd
    obtain ⟨ds', hd', rfl⟩ := hd
    obtain ⟨v, pv, rv⟩ := konstX (T := T) (Y := X.suite a ((a, oe) :: pn)) (j := j) (pos := pos) h.1
    refine PA.imp (pa_cons pv (pa_his S hK hN hsc hx hz hf hcl h.2 hd') (star_cons rfl)) fun σ H Q ⟨ι, Hs, hh, k⟩ => ?_
    exact ⟨ι, Hs, hh, fun vs r => k _ (.cons (rv _ _) r)⟩
  | .f f :: hs, e :: es, ds, h, hd => by
    cases e <;> first | cases h | skip
    next o y pos =>
      cases o <;> first | cases h | skip
      next n p =>
      simp only [hisB, Bool.and_eq_true, decide_eq_true_eq] at h
      obtain ⟨⟨⟨⟨rfl, h2⟩, h3⟩, h4⟩, h5⟩ := h
      rw [← hN] at h2
      rw [← hsc] at h3
      simp only [hiD] at hd
      split at hd
      · next j hj =>
        split at hd
        · next d0 ds0 hd0 hds0 =>
          cases hd
          have hm := idxOf_get hj
          rw [S.xfd] at hm
          have hmem : f ∈ T.xfl x.c := List.mem_of_getElem? hm
          have C := S.xfc x.c hx
          have hno := S.noa x.c f hx hmem
          rw [← hK] at C hno
          have pv : PE (X.suite a ((a, oe) :: pn)) (.Name n p) (tVar i) := pe_var h2 (vis_of (sc := X.env.scope) h3) (nmB_of h4).1 (nmB_of h4).2
          have pf := pe_xf (pn := pn) (pos := pos) C hno hz hf pv rfl
          refine PA.imp (pa_cons pf (pa_his S hK hN hsc hx hz hf hcl h5 hds0) (star_cons rfl)) fun σ H Q ⟨ι, Hs, hh, k⟩ => ?_
          have hne : x.fs ≠ [] := fun z => by rw [z] at hd0; cases hd0
          obtain ⟨dd, fs, vs, a1, a2, a3, a4⟩ := hh.ex.2.2 hne
          obtain ⟨w, hw, rw_⟩ := a4.get hd0
          have hl := map_get a3.1 hm
          rw [List.getElem?_map, hw] at hl
          exact ⟨_, hh.sl, rfl, hcl, dd, fs, w, a1, hh.sm _ _ a2, (Option.some.inj hl).symm, ι, Hs, hh, fun vs' r => k _ (.cons rw_ r)⟩
        · cases hd
      · cases hd
end
end Lit
end
section
set_option maxHeartbeats 4000000
namespace Lit
open PySem L2 PyProof.Rows
section
variable {T : Tb} {P : Pg} {X : Cx} {N : List Str} {sc : List (Str × NameKind)} {i : Nat} {a : Addr} {oe : Obj} {cls : Value} {d : Option Addr} {pn : List (Addr × Obj)} {x : Exc}
def tSX (T : Tb) (P : Pg) (i : Nat) (a : Addr) (cls : Value) (d : Option Addr) (x : Exc) (cl : List (List (Bool × XTy) × List HI)) (last : List HI) : TS := fun Z σ H => ∃ ι Hs ds, HX T P i a cls d x ι Hs σ H ∧ clD P x cl last = some ds ∧ ds.length ≤ 16777216 ∧
  ∀ p vs, H p = none → RpL T Hs ι vs ds → Z.rt (.ref p) (upd H p (.tup vs))
theorem su_ret (S : XG T P X.mg) (hK : X.K = T.K) (hN : X.N = N) (hsc : X.env.scope.names = sc) (hx : P.isx x.c = true) (hz : Zc cls d oe) (hf : ∃ vs, oe.data = .fields vs) (hcl : cls = .ref (T.xad x.c)) {hs : List HI} {es : List Expr} {kk : Nat} {p1 p2 : Pos} (h : hisB N sc i hs es = true) :
    PSs (X.suite a ((a, oe) :: pn)) [.Return (some (.Tuple es kk p1)) p2] (fun Z σ H => ∃ ι Hs ds, HX T P i a cls d x ι Hs σ H ∧ hiD P x hs = some ds ∧ ds.length ≤ 16777216 ∧ ∀ p vs, H p = none → RpL T Hs ι vs ds → Z.rt (.ref p) (upd H p (.tup vs))) := by
  refine ⟨fun pins s σ H Z I ⟨ι, Hs, ds, hh, hd, hl, k⟩ => ?_⟩
  refine (pss_one (ps_ret (pe_tup (x1 := kk) (pos := p1) (pa_his (a := a) (pn := pn) S hK hN hsc hx hz hf hcl h hd)))).run pins s σ H Z I ?_
  exact ⟨ι, Hs, hh, fun vs r => ⟨by rw [line_eq, r.length]; exact hl, fun p hp => k p vs hp r⟩⟩
theorem su_ok (S : XG T P X.mg) (hK : X.K = T.K) (hN : X.N = N) (hsc : X.env.scope.names = sc) (hx : P.isx x.c = true) (hz : Zc cls d oe) (hf : ∃ vs, oe.data = .fields vs) (hcl : cls = .ref (T.xad x.c)) {last : List HI} :
    ∀ {cl : List (List (Bool × XTy) × List HI)} {ss : List Stmt}, suB P N sc i cl last ss = true → PSs (X.suite a ((a, oe) :: pn)) ss (tSX T P i a cls d x cl last)
  | [], ss, h => by
    unfold suB at h
    split at h
    · exact su_ret (a := a) (pn := pn) S hK hN hsc hx hz hf hcl h
    · contradiction
    · cases h
  | (ts, hs) :: r, ss, h => by
    unfold suB at h
    split at h
    · contradiction
    · next ts' hs' r' test es kk p1 p2 pos rest e1 =>
      cases e1
      simp only [Bool.and_eq_true] at h
      obtain ⟨⟨h1, h2⟩, h3⟩ := h
      refine ⟨fun pins s σ H Z I ⟨ι, Hs, ds, hh, hd, hl, k⟩ => ?_⟩
      have pt := pt_tst (a := a) (pn := pn) S hK hN hsc hx hz hf hcl h1
      have rest' := su_ok S hK hN hsc hx hz hf hcl h3
      simp only [clD] at hd
      split at hd
      · next hb =>
        refine (pss_cons (ps_if pt (su_ret (a := a) (pn := pn) S hK hN hsc hx hz hf hcl h2) pss_nil) rest').run pins s σ H Z I ⟨⟨ι, Hs, hh⟩, ?_⟩
        rw [hb]
        simp only [if_true]
        exact ⟨ι, Hs, ds, hh, hd, hl, k⟩
      · next hb =>
        have hb : (ts.all fun t => xtB P x.c t.2 == t.1) = false := Bool.eq_false_iff.mpr hb
        refine (pss_cons (ps_if pt (t := tNever) pss_never pss_nil) rest').run pins s σ H Z I ⟨⟨ι, Hs, hh⟩, ?_⟩
        rw [hb]
        simp only [Bool.false_eq_true, if_false]
        exact ⟨ι, Hs, ds, hh, hd, hl, k⟩
    · cases h
/-- the clause's suite, whatever error it holds -/
def tSU (T : Tb) (P : Pg) (i : Nat) (cl : List (List (Bool × XTy) × List HI)) (last : List HI) : Addr → Value → Option Addr → TS := fun a cls d Z σ H => ∃ x, P.isx x.c = true ∧ cls = .ref (T.xad x.c) ∧ tSX T P i a cls d x cl last Z σ H
theorem su_any (S : XG T P X.mg) (hK : X.K = T.K) (hN : X.N = N) (hsc : X.env.scope.names = sc) (hz : Zc cls d oe) (hf : ∃ vs, oe.data = .fields vs) {cl : List (List (Bool × XTy) × List HI)} {last : List HI} {ss : List Stmt} (h : suB P N sc i cl last ss = true) :
    PSs (X.suite a ((a, oe) :: pn)) ss (tSU T P i cl last a cls d) :=
  ⟨fun pins s σ H Z I ⟨x, hx, hcl, z⟩ => (su_ok (x := x) S hK hN hsc hx hz hf hcl h).run pins s σ H Z I z⟩
variable {F : Fr} {W : WX} {f : Stt → Out Flow'} {h : Nat} {nn : Str} {np pos pos' : Pos} {body suite : List Stmt} {b₀ : Stmt}
def tryHF (P : Pg) (h i : Nat) (cl : List (List (Bool × XTy) × List HI)) (last : List HI) (f : Stt → Out Flow') (st : Stt) : Out Flow' := match f st with
    | .exc x s => if P.isx x.c = true ∧ i < s.env.length then (if P.xsub x.c h = true then match clD P x cl last with
        | some ds => if ds.length ≤ 16777216 then .ok (.rt (.tup ds)) s else .bad
        | none => .bad
      else .exc x s) else .bad
    | o => o
theorem ts_tryH (S : XG T P X.mg) (hK : X.K = T.K) (hh : P.isx h = true) (hs : X.stack = X.env :: X.outer) (hfr : X.env.frame = some X.env.locals) (hNd : X.N.Nodup) (hi : X.N[i]? = some nn) (hln : X.env.scope.names.lookup nn = some .local) (hg : Gl X (P.xnm h)) (hd : ((P.xnm h) == ("__debug__" : Str)) = false) (tk : Takes X W)
    (hb : ∀ (W : WX) (pn : List (Addr × Obj)) (xe : Value → Shared → Prop), Takes (X.tr pn xe) W → PassesOwn (model X.prog X.w) X.A X.env xe → PSs (X.tr pn xe) body (TS' T F W f))
    {cl : List (List (Bool × XTy) × List HI)} {last : List HI} (hsu : suB P X.N X.env.scope.names i cl last (b₀ :: suite) = true) :
    PS X (.Try body [.ExceptHandler (some (.Name (P.xnm h) np)) (some nn) (b₀ :: suite) pos'] [] [] pos) (TS' T F W (tryHF P h i cl last f)) := by
  refine PS.imp (ps_try_as (c := .ref (T.xad h)) (ts := tSU T P i cl last) (tb := fun W => TS' T F W f) hs hfr hNd hi hln ⟨hg, hd, .inl (S.gx h hh)⟩ tk hb (fun a oe cls d pn hz hf => su_any S hK rfl rfl hz hf hsu)) fun Z σ H ⟨ι, Hs, st, R, q⟩ => ⟨ι, Hs, st, R, ?_⟩
  unfold tryHF at q
  cases e : f st with
  | bad => rw [e] at q; exact q
  | ok fl s => rw [e] at q; exact q
  | exc x s =>
    rw [e] at q
    simp only at q
    intro ι' Hs' H' σ' cls d p e1 R' rx
    split at q
    · next hc =>
      obtain ⟨hx, hlen⟩ := hc
      refine ⟨P.xsub x.c h, ?_, fun hyes a na => ?_, fun hno => ?_⟩
      · rw [rx.1, hK]; exact S.exm _ _ hx hh
      · rw [if_pos hyes] at q
        split at q
        · next ds hds =>
          split at q
          · next hl =>
            refine ⟨x, hx, rx.1, ι', Hs', ds, ⟨hx, ?_, R'.s.sub, rx⟩, hds, hl, fun pp vs hp r => ?_⟩
            · rw [List.getElem?_set_self (by rw [R'.e.len]; exact hlen)]
            · have nHs := (R'.s.fresh hp).1
              exact q ι' (upd Hs' pp (.tup vs)) (upd H' pp (.tup vs)) σ' p (e1.trans (same_upd nHs)) (R'.alloc hp) (.ref pp) (.tup upd_same (r.up (same_upd nHs) (List.prefix_refl _)))
          · exact q.elim
        · exact q.elim
      · rw [if_neg (by rw [hno]; decide)] at q
        exact q ι' Hs' H' σ' cls d p e1 R' rx
    · exact q.elim
end
end Lit
end
section
set_option maxHeartbeats 4000000
namespace Lit
open PySem L2 PyProof.Rows
/-- what a clause may say without harm: a constant, a name -/
def smpl : E → Bool
  | .v _ => true
  | .k _ => true
  | _ => false
section
variable {T : Tb} {P : Pg} {X : Cx} {N : List Str} {sc : List (Str × NameKind)} {F : Fr} {W : WX} {cl : Bool}
theorem smp_e (hN : X.N = N) (hsc : X.env.scope.names = sc) : ∀ {e : E} {x : Expr}, smpl e = true → okE cl P N e sc x = true → PE X x (TE' T F W (ev P e))
  | .v i, x, _, h => by
    simp only [okE] at h
    split at h
    · simp only [Bool.and_eq_true, decide_eq_true_eq] at h
      obtain ⟨⟨h1, h2⟩, h3⟩ := h
      rw [← hsc] at h2
      rw [← hN] at h1
      exact te_var h1 (vis_of h2) (nmB_of h3).1 (nmB_of h3).2
    · cases h
  | .k d, x, _, h => by
    simp only [okE] at h
    split at h
    · exact konst h
    · cases h
variable {f : Stt → Out Flow'} {g : Stt → Out (List D)} {h c : Nat} {np p pos pos' pos2 pos3 cpos : Pos} {body : List Stmt} {ea : Expr} {j k : Nat}
def tryRF (P : Pg) (h c : Nat) (f : Stt → Out Flow') (g : Stt → Out (List D)) (st : Stt) : Out Flow' := match f st with
    | .exc x s => if P.isx x.c = true then (if P.xsub x.c h = true then raiseF P c g s else .exc x s) else .bad
    | o => o
theorem ts_tryR (S : XF T P X.prog X.mg) (G : XG T P X.mg) (hK : X.K = T.K) (hh : P.isx h = true) (hx : P.isx c = true) (hs : X.stack = X.env :: X.outer) (hfr : X.env.frame = some X.env.locals) (hg : Gl X (P.xnm h)) (hd : ((P.xnm h) == ("__debug__" : Str)) = false)
    (hg2 : Gl X (P.xnm c)) (hd2 : ((P.xnm c) == ("__debug__" : Str)) = false) (hpa : ∀ hd : Option Value, PassesOwnAt (model X.prog X.w) (X.A.mark hd) X.A X.env X.xe) (tk : L2.Takes X W) (hr : Room k X.A)
    (hb : ∀ (W : WX) (pn : List (Addr × Obj)) (xe : Value → Shared → Prop), L2N.Takes (X.tr pn xe) W → PassesOwn (model X.prog X.w) X.A X.env xe → PSs (X.tr pn xe) body (TS' T F W f))
    (ha : ∀ (a : Addr) (oe : Obj) (pn : List (Addr × Obj)), PA (L2H.suiteX X a ((a, oe) :: pn)) [ea] (TA' T F W g)) (he : starEach (ea :: []) X.env = (false, eval ea X.env) :: starEach [] X.env) :
    PS X (.Try body [.ExceptHandler (some (.Name (P.xnm h) np)) none [.Raise (some (.Call (.Name (P.xnm c) p) [ea] [] pos)) (some (.Constant .none j cpos)) pos2] pos'] [] [] pos3) (TS' T F W (tryRF P h c f g)) := by
  refine PS.imp (L2H.ps_try_onlyX (c := .ref (T.xad h)) (ts := fun _ _ _ => TS' T F W (raiseF P c g)) (tb := fun W => TS' T F W f) hs hfr ⟨hg, hd, .inl (G.gx h hh)⟩ hpa tk (fun W' pn xe tkN tkD po => hb W' pn xe tkN po) (fun a oe cls d pn hz hf tkS hot => ?_)) fun Z σ H ⟨ι, Hs, st, R, q⟩ => ⟨ι, Hs, st, R, ?_⟩
  · have := ts_raiseN (X := L2H.suiteX X a ((a, oe) :: pn)) (k := k) (p := p) (pos := pos) (pos2 := pos2) (j := j) (cpos := cpos) (F := F) S hK hot hx ⟨hr.dp, hr.un⟩ tkS (ha a oe pn) hg2 hd2 he
    exact pss_one this
  · unfold tryRF at q
    cases e : f st with
    | bad => rw [e] at q; exact q
    | ok fl s => rw [e] at q; exact q
    | exc x s =>
      rw [e] at q
      simp only at q
      intro ι' Hs' H' σ' cls d p e1 R' rx
      split at q
      · next hx' =>
        refine ⟨P.xsub x.c h, ?_, fun hyes a na => ?_, fun hno => ?_⟩
        · rw [rx.1, hK]; exact G.exm _ _ hx' hh
        · rw [if_pos hyes] at q
          exact ⟨ι', Hs', s, R', PostS.up q p e1⟩
        · rw [if_neg (by rw [hno]; decide)] at q
          exact q ι' Hs' H' σ' cls d p e1 R' rx
      · exact q.elim
end
end Lit
end
section
set_option maxHeartbeats 4000000
namespace Lit
open PySem L2 PyProof.Rows
structure COS (cl tp : Bool) (T : Tb) (P : Pg) (k : Nat) (N : List Str) (sc : List (Str × NameKind)) (W : WX) (X : Cx) : Prop where
  co : CO T P k N sc X
  tk : TkB cl X W
  fn : ∀ x, L2.Loc X.env.scope x → X.fn x = true ∨ X.env.scope.names.lookup x = some .local
  po : PassesOwn (model X.prog X.w) X.A X.env X.xe
  pa : tp = true → ∀ hd : Option Value, PassesOwnAt (model X.prog X.w) (X.A.mark hd) X.A X.env X.xe
  xf : XF T P X.prog X.mg
  xg : XG T P X.mg
  stk : X.stack = X.env :: X.outer
  frm : X.env.frame = some X.env.locals
theorem COS.tr {cl c2 tp : Bool} {T : Tb} {P : Pg} {k : Nat} {N : List Str} {sc : List (Str × NameKind)} {W W' : WX} {X : Cx} {pn : List (Addr × Obj)} {xe : Value → Shared → Prop} (C : COS cl tp T P k N sc W X) (tk : TkB c2 (X.tr pn xe) W') (po : PassesOwn (model X.prog X.w) X.A X.env xe) : COS c2 false T P k N sc W' (X.tr pn xe) :=
  ⟨⟨C.co.K, C.co.N, C.co.nd, C.co.sc, C.co.kd, C.co.calm, C.co.S, C.co.bno, C.co.room, C.co.fns⟩, tk, C.fn, po, (fun z => nomatch z), C.xf, C.xg, C.stk, C.frm⟩
def tgB (N : List Str) (sc : List (Str × NameKind)) : List Nat → List Expr → Bool
  | [], [] => true
  | i :: is, .Name x _ :: ts => decide (N[i]? = some x) && locB sc x && tgB N sc is ts
  | _, _ => false
def isLc : E → Bool
  | .lc .. => true
  | _ => false
mutual
def okS (cl tp : Bool) (P : Pg) (N : List Str) : St → List (Str × NameKind) → Stmt → Bool
  | .asg i e, sc, s => match s with
    | .Assign [.Name x p] ex _ => decide (N[i]? = some x) && locB sc x && okE cl P N e sc ex && (!(swB sc x p.line ex) || isLc e)
    | _ => false
  | .asgT is e, sc, s => match s with
    | .Assign [.Tuple ts _ _] ex _ => tgB N sc is ts && okE cl P N e sc ex && noTup ex
    | _ => false
  | .setix o i e, sc, s => match s with
    | .Assign [.Subscript eo ei _] ex _ => okE cl P N o sc eo && okE cl P N i sc ei && okE cl P N e sc ex && plainIx ei
    | _ => false
  | .aug i o e, sc, s => match s with
    | .AugAssign (.Name x _) op ex _ => decide (N[i]? = some x) && locB sc x && decide (o = op) && (decide (op = .Add) || decide (op = .Sub)) && okE cl P N e sc ex
    | _ => false
  | .setf o f e, sc, s => match s with
    | .Assign [.Attribute eo x _] ex _ => decide (x = f) && okE cl P N o sc eo && okE cl P N e sc ex
    | _ => false
  | .ex e, sc, s => match s with
    | .Expr ex _ => okE cl P N e sc ex && noComp ex
    | _ => false
  | .ite c a b, sc, s => match s with
    | .If ec sa sb _ => okE cl P N c sc ec && okSs cl tp P N a sc sa && okSs cl tp P N b sc sb
    | _ => false
  | .for_ i kd a b body, sc, s => match s with
    | .For (.Name x _) iter sb [] _ => decide (N[i]? = some x) && locB sc x && noSet iter && okI (okE cl P N a sc) (okE cl P N b sc) kd b sc iter && okSs cl tp P N body sc sb
    | _ => false
  | .whl _ c body, sc, s => match s with
    | .While ec sb [] _ => okE cl P N c sc ec && okSs cl tp P N body sc sb
    | _ => false
  | .ret e, sc, s => match s with
    | .Return (some ex) _ => okE cl P N e sc ex
    | _ => false
  | .ret0, _, s => match s with
    | .Return none _ => true
    | _ => false
  | .pass, _, s => match s with
    | .Pass _ => true
    | _ => false
  | .brk, _, s => match s with
    | .Break _ => true
    | _ => false
  | .cont, _, s => match s with
    | .Continue _ => true
    | _ => false
  | .dead, _, _ => true
  | .raise c es, sc, s => match s with
    | .Raise (some (.Call (.Name x _) [ea] [] _)) none _ => decide (x = P.xnm c) && P.isx c && glB sc x && nmB x && okL cl P N es sc [ea]
    | _ => false
  | .tryH body h i cls last, sc, s => match s with
    | .Try sb [.ExceptHandler (some (.Name x _)) (some n) (b₀ :: su) _] [] [] _ => decide (x = P.xnm h) && P.isx h && glB sc x && nmB x && decide (N[i]? = some n) && decide (sc.lookup n = some .local) && okSs false false P N body sc sb && suB P N sc i cls last (b₀ :: su) && !cl
    | _ => false
  | .tryR body h c (.cons e0 .nil), sc, s => match s with
    | .Try sb [.ExceptHandler (some (.Name x _)) none [.Raise (some (.Call (.Name y _) [ea] [] _)) (some (.Constant .none _ _)) _] _] [] [] _ =>
      tp && !cl && decide (x = P.xnm h) && P.isx h && glB sc x && nmB x && decide (y = P.xnm c) && P.isx c && glB sc y && nmB y && smpl e0 && okE cl P N e0 sc ea && nst ea && okSs true false P N body sc sb
    | _ => false
  | _, _, _ => false
def okSs (cl tp : Bool) (P : Pg) (N : List Str) : Sts → List (Str × NameKind) → List Stmt → Bool
  | .nil, _, ss => match ss with
    | [] => true
    | _ => false
  | .cons a as, sc, ss => match ss with
    | s :: ss => okS cl tp P N a sc s && okSs cl tp P N as sc ss
    | _ => false
end
section
variable {cl tp : Bool} {T : Tb} {P : Pg} {k : Nat} {N : List Str} {W : WX} {X : Cx} {sc : List (Str × NameKind)}
def SS (T : Tb) (P : Pg) (W : WX) (X : Cx) (a : St) (s : Stmt) : Prop := ∀ F, PS X s (TS' T F W (ex P a))
def SSs (T : Tb) (P : Pg) (W : WX) (X : Cx) (a : Sts) (s : List Stmt) : Prop := ∀ F, PSs X s (TS' T F W (exs P a))
theorem assignEach_nm {x : Str} {p : Pos} {ts : List Expr} {env : Env} : (assignEach (.Name x p :: ts) env).map (·.2) = assign (.Name x p) env :: (assignEach ts env).map (·.2) := rfl
theorem tg_of (C : CO T P k N sc X) (hfn : ∀ x, L2.Loc X.env.scope x → X.fn x = true ∨ X.env.scope.names.lookup x = some .local) : ∀ {is : List Nat} {ts : List Expr}, tgB N sc is ts = true → TgN X is ts ∧ (assignEach ts X.env).length = is.length ∧ (assignEach ts X.env).findIdx? (·.1) = none
  | [], [], _ => ⟨.nil, rfl, rfl⟩
  | [], _ :: _, h => by cases h
  | _ :: _, [], h => by cases h
  | i :: is, t :: ts, h => by
    cases t <;> first | cases h | skip
    next x p =>
    simp only [tgB, Bool.and_eq_true, decide_eq_true_eq] at h
    obtain ⟨⟨h1, h2⟩, h3⟩ := h
    obtain ⟨q1, q2, q3⟩ := tg_of C hfn h3
    rw [← C.N] at h1
    rw [← C.sc] at h2
    refine ⟨.cons h1 (loc_of h2) (hfn x (loc_of h2)) assignEach_nm q1, ?_, ?_⟩
    · show (assignEach ts X.env).length + 1 = is.length + 1
      rw [q2]
    · show List.findIdx? (·.1) ((false, assign (.Name x p) X.env) :: assignEach ts X.env) = none
      rw [List.findIdx?_cons]
      simp only [q3]
      rfl
theorem ite_eq {c : E} {a b : Sts} : ex P (.ite c a b) = fun st => ((ev P c st).bind truO).bind fun t s1 => match t with
    | true => exs P a s1
    | false => exs P b s1 := by
  funext st
  rw [Out.assoc]
  rfl
theorem for_eq {i : Nat} {kd : ItK} {a b : E} {body : Sts} : ex P (.for_ i kd a b body) = forFF i kd (ev P a) (ev P b) (exs P body) := by
  funext st
  unfold forFF walkB
  rw [Out.assoc]
  show (ev P a st).bind _ = _
  congr 1
  funext ra s1
  rw [Out.assoc]
  congr 1
  funext da s2
  rw [Out.assoc]
  congr 1
  funext rb s3
  rw [Out.assoc]
  congr 1
  funext db s4
  cases iterD kd da db <;> rfl
theorem asg_lc {i : Nat} {e : E} {x : Str} {p pos : Pos} {ex : Expr} (C : COS cl tp T P k N sc W X) (h1 : N[i]? = some x) (h3 : okE cl P N e sc ex = true) (hw : swB sc x p.line ex = true) (hl : isLc e = true) (F : Fr) :
    PS X (.Assign [.Name x p] ex pos) (tAsg (TE' T F W (ev P e)) (gName i)) := by
  cases e <;> first | cases hl | skip
  next j kd a b cond el =>
  simp only [okE] at h3
  split at h3
  · next elt y tp iter ifs ia scope lpos =>
    simp only [Bool.and_eq_true, decide_eq_true_eq] at h3
    obtain ⟨⟨⟨⟨⟨⟨⟨⟨rfl, h2⟩, h3⟩, h4⟩, h5⟩, h6⟩, h7⟩, h8⟩, h9⟩ := h3
    have K := C.co
    rw [← K.N] at h1 h2
    rw [← K.N, ← K.sc] at h3
    obtain ⟨hi, hfb⟩ := sndI (tg := .Name y tp) K (fun e z => sndE a K C.tk e z) (fun e z => sndE b K C.tk e z) h6
    have bo := blkB_of h3
    have hx : X.env.scope.names.lookup x = some .local := by
      rw [K.sc]
      simp only [swB, Bool.and_eq_true, beq_iff_eq] at hw
      exact hw.1.1
    refine ps_lc K.calm K.nd h2 h1 hx ?_ (hi F) hfb bo (loc_of h4) (fun B hB F' => ?_) (fun B hB F' => ?_) (fold_of h5)
    · rw [sw_of K.kd, K.sc, hw]
    · exact (sndL cond (K.blk hB bo.kind) tkb0 _ h8).c F' h9
    · exact (sndE el (K.blk hB bo.kind) tkb0 _ h7).e F'
  · cases h3
end
mutual
theorem sndS {cl tp : Bool} {T : Tb} {P : Pg} {k : Nat} {N : List Str} : (ir : St) → ∀ {W : WX} {X : Cx} {sc : List (Str × NameKind)} (C : COS cl tp T P k N sc W X) (s : Stmt), okS cl tp P N ir sc s = true → SS T P W X ir s
  | .asg i e, W, X, sc, C, s, h => by
    simp only [okS] at h
    split at h
    · next x p ex pos =>
      simp only [Bool.and_eq_true, decide_eq_true_eq] at h
      obtain ⟨⟨⟨h1, h2⟩, h3⟩, h4⟩ := h
      have K := C.co
      intro F
      by_cases hw : swB sc x p.line ex = true
      · have hl : isLc e = true := by simpa [hw] using h4
        exact ts_asgL (asg_lc C h1 h3 hw hl F)
      · have hw : swB sc x p.line ex = false := by simpa using hw
        rw [← K.N] at h1
        rw [← K.sc] at h2
        exact ts_asg K.nd h1 (loc_of h2) (C.fn x (loc_of h2)) ((sndE e K C.tk _ h3).e F) (by rw [sw_of K.kd, K.sc, hw])
    · cases h
  | .asgT is e, W, X, sc, C, s, h => by
    simp only [okS] at h
    split at h
    · simp only [Bool.and_eq_true] at h
      obtain ⟨⟨h1, h2⟩, h3⟩ := h
      have K := C.co
      obtain ⟨q1, q2, q3⟩ := tg_of K C.fn h1
      exact fun F => ts_asgT K.calm K.K K.nd q1 ((sndE e K C.tk _ h2).e F) sw_tup (sto_tup h3) q2 q3 rfl
    · cases h
  | .setix o i e, W, X, sc, C, s, h => by
    simp only [okS] at h
    split at h
    · simp only [Bool.and_eq_true] at h
      obtain ⟨⟨⟨h1, h2⟩, h3⟩, h4⟩ := h
      have K := C.co
      exact fun F => ts_setix ((sndE o K C.tk _ h1).e F) ((sndE i K C.tk _ h2).e F) ((sndE e K C.tk _ h3).e F) sw_sub sto_sub (asg_sub h4)
    · cases h
  | .aug i o e, W, X, sc, C, s, h => by
    simp only [okS] at h
    split at h
    · simp only [Bool.and_eq_true, decide_eq_true_eq, Bool.or_eq_true] at h
      obtain ⟨⟨⟨⟨h1, h2⟩, rfl⟩, h4⟩, h5⟩ := h
      have K := C.co
      rw [← K.N] at h1
      rw [← K.sc] at h2
      exact fun F => ts_aug K.nd h1 (loc_of h2) (C.fn _ (loc_of h2)) ((sndE e K C.tk _ h5).e F) h4
    · cases h
  | .setf o f e, W, X, sc, C, s, h => by
    simp only [okS] at h
    split at h
    · simp only [Bool.and_eq_true, decide_eq_true_eq] at h
      obtain ⟨⟨rfl, h2⟩, h3⟩ := h
      have K := C.co
      exact fun F => ts_setf K.S K.K ((sndE o K C.tk _ h2).e F) ((sndE e K C.tk _ h3).e F) sw_attr
    · cases h
  | .ex e, W, X, sc, C, s, h => by
    simp only [okS] at h
    split at h
    · simp only [Bool.and_eq_true] at h
      exact fun F => ts_expr ((sndE e C.co C.tk _ h.1).e F) (sw_none h.2)
    · cases h
  | .ite c a b, W, X, sc, C, s, h => by
    simp only [okS] at h
    split at h
    · simp only [Bool.and_eq_true] at h
      obtain ⟨⟨h1, h2⟩, h3⟩ := h
      intro F
      rw [ite_eq]
      exact ts_if ((sndE c C.co C.tk _ h1).t F) (sndSs a C _ h2 F) (sndSs b C _ h3 F)
    · cases h
  | .for_ i kd a b body, W, X, sc, C, s, h => by
    simp only [okS] at h
    split at h
    · next x tp iter sb pos =>
      simp only [Bool.and_eq_true, decide_eq_true_eq] at h
      obtain ⟨⟨⟨⟨h1, h2⟩, h3⟩, h4⟩, h5⟩ := h
      have K := C.co
      obtain ⟨hi, hfb⟩ := sndI (tg := .Name x tp) K (fun e z => sndE a K C.tk e z) (fun e z => sndE b K C.tk e z) h4
      rw [← K.N] at h1
      rw [← K.sc] at h2
      intro F
      rw [for_eq]
      exact ts_for C.po K.calm K.nd h1 (loc_of h2) (C.fn x (loc_of h2)) (hi F) hfb (sndSs body C _ h5 F) (fold_of h3)
    · cases h
  | .whl n c body, W, X, sc, C, s, h => by
    simp only [okS] at h
    split at h
    · simp only [Bool.and_eq_true] at h
      exact fun F => ts_while C.po ((sndE c C.co C.tk _ h.1).t F) (sndSs body C _ h.2 F)
    · cases h
  | .ret e, W, X, sc, C, s, h => by
    simp only [okS] at h
    split at h
    · exact fun F => ts_ret ((sndE e C.co C.tk _ h).e F)
    · cases h
  | .ret0, W, X, sc, C, s, h => by
    simp only [okS] at h
    split at h
    · exact fun F => ts_ret0
    · cases h
  | .pass, W, X, sc, C, s, h => by
    simp only [okS] at h
    split at h
    · exact fun F => ts_pass
    · cases h
  | .brk, W, X, sc, C, s, h => by
    simp only [okS] at h
    split at h
    · exact fun F => ts_brk
    · cases h
  | .cont, W, X, sc, C, s, h => by
    simp only [okS] at h
    split at h
    · exact fun F => ts_cont
    · cases h
  | .asgP .., _, _, _, _, _, h => by cases h
  | .dead, W, X, sc, C, s, h => fun F => PS.imp ps_never fun Z σ H ⟨ι, Hs, st, R, q⟩ => q.elim
  | .raise c es, W, X, sc, C, s, h => by
    simp only [okS] at h
    split at h
    · simp only [Bool.and_eq_true, decide_eq_true_eq] at h
      obtain ⟨⟨⟨⟨rfl, h2⟩, h3⟩, h4⟩, h5⟩ := h
      have K := C.co
      have q := sndL es K C.tk _ h5
      have ns := q.ns
      simp only [List.all_cons, Bool.and_eq_true] at ns
      rw [← K.sc] at h3
      exact fun F => ts_raise C.xf K.K K.calm h2 K.room C.tk (q.a F) (gl_of h3) (nmB_of h4).1 (star_cons ns.1)
    · cases h
  | .tryH body hh i cls last, W, X, sc, C, s, h => by
    simp only [okS] at h
    split at h
    · simp only [Bool.and_eq_true, decide_eq_true_eq, Bool.not_eq_true'] at h
      obtain ⟨⟨⟨⟨⟨⟨⟨⟨rfl, h2⟩, h3⟩, h4⟩, h5⟩, h6⟩, h7⟩, h8⟩, rfl⟩ := h
      have K := C.co
      rw [← K.sc] at h3 h6 h8
      rw [← K.N] at h5 h8
      exact fun F => ts_tryH C.xg K.K h2 C.stk C.frm K.nd h5 h6 (gl_of h3) (nmB_of h4).1 C.tk (fun W' pn xe tk' po => sndSs body (C.tr (c2 := false) tk' po) _ h7 F) h8
    · cases h
  | .tryR body hh c (.cons e0 .nil), W, X, sc, C, s, h => by
    simp only [okS] at h
    split at h
    · simp only [Bool.and_eq_true, decide_eq_true_eq, Bool.not_eq_true'] at h
      obtain ⟨⟨⟨⟨⟨⟨⟨⟨⟨⟨⟨⟨⟨rfl, rfl⟩, rfl⟩, h2⟩, h3⟩, h4⟩, rfl⟩, h5⟩, h6⟩, h7⟩, h8⟩, h9⟩, h10⟩, h11⟩ := h
      have K := C.co
      rw [← K.sc] at h3 h6
      exact fun F => ts_tryR (g := evc P (.cons e0 .nil)) C.xf C.xg K.K h2 h5 C.stk C.frm (gl_of h3) (nmB_of h4).1 (gl_of h6) (nmB_of h7).1 (C.pa rfl) C.tk K.room (fun W' pn xe tk' po => sndSs body (C.tr (c2 := true) tk' po) _ h11 F)
        (fun a oe pn => ta_cons (smp_e (X := L2H.suiteX X a ((a, oe) :: pn)) K.N K.sc h8 h9) ta_nil (star_cons h10)) (star_cons h10)
    · cases h
  | .tryR _ _ _ .nil, _, _, _, _, _, h => by cases h
  | .tryR _ _ _ (.cons _ (.cons _ _)), _, _, _, _, _, h => by cases h
theorem sndSs {cl tp : Bool} {T : Tb} {P : Pg} {k : Nat} {N : List Str} : (ir : Sts) → ∀ {W : WX} {X : Cx} {sc : List (Str × NameKind)} (C : COS cl tp T P k N sc W X) (ss : List Stmt), okSs cl tp P N ir sc ss = true → SSs T P W X ir ss
  | .nil, W, X, sc, C, ss, h => by
    simp only [okSs] at h
    split at h
    · exact fun F => ts_nil
    · cases h
  | .cons a as, W, X, sc, C, ss, h => by
    simp only [okSs] at h
    split at h
    · simp only [Bool.and_eq_true] at h
      exact fun F => ts_cons (sndS a C _ h.1 F) (sndSs as C _ h.2 F)
    · cases h
end
end Lit
end
section
set_option maxHeartbeats 4000000
namespace Lit
open PySem PySem.Spec L2 PyProof.Rows
/-- a body over n slots, np of them the parameters -/
def semN (P : Pg) (np n : Nat) (body : Sts) : Sem' := fun ds cs => if ds.length = np then runD P n body ds cs else none
theorem rel_start {T : Tb} {ι : List Addr} {Hs H : Hp} {cs : List Cell} {vs : List V} {ds : List D} {N : List Str} (S : SR T (here H ι Hs) ι Hs H cs) (r : RpL T Hs ι vs ds) :
    Rel T (here H ι Hs) ι Hs H (L2.start N vs) ⟨ds.map .sh ++ List.replicate (N.length - ds.length) .no, cs⟩ := by
  have hl := r.length
  refine ⟨S, ⟨by simp [L2.start, hl], fun i s h => ?_, fun i j xs ys p h => ?_, fun q hq => absurd (show q ∈ ([] : List (Addr × HO)) from hq) (by simp)⟩⟩
  · by_cases hi : i < ds.length
    · rw [List.getElem?_append_left (by simpa using hi), List.getElem?_map] at h
      cases e : ds[i]? with
      | none => rw [e] at h; cases h
      | some d =>
        rw [e] at h
        cases h
        obtain ⟨v, hv, rv⟩ := r.get e
        refine ⟨v, ?_, rv⟩
        show (vs.map some ++ _)[i]? = _
        rw [List.getElem?_append_left (by simp [hl, hi]), List.getElem?_map, hv]
        rfl
    · rw [List.getElem?_append_right (by simpa using hi)] at h
      rw [List.getElem?_replicate] at h
      split at h
      · cases h; trivial
      · cases h
  · exfalso
    by_cases hi : i < ds.length
    · rw [List.getElem?_append_left (by simpa using hi), List.getElem?_map] at h
      cases e : ds[i]? with
      | none => rw [e] at h; cases h
      | some d => rw [e] at h; cases h
    · rw [List.getElem?_append_right (by simpa using hi)] at h
      rw [List.getElem?_replicate] at h
      split at h <;> cases h
theorem post_start {T : Tb} {P : Pg} {ι : List Addr} {Hs H : Hp} {st : Stt} {body : Sts} {Q : VK} {E : XK}
    (h : match (match exs P body st with
      | .ok (.rt d) s => some (Res.ret d, s.cs)
      | .ok .nx s => some (.ret .non, s.cs)
      | .ok _ _ => none
      | .exc x s => some (.exc x, s.cs)
      | .bad => none : Option (Res × List Cell)) with
      | some (.ret d, cs') => ∀ ι' Hs' H' v, SR T (here H ι Hs) ι' Hs' H' cs' → Rp T Hs' ι' v d → Q v H'
      | some (.exc x, cs') => ∀ ι' Hs' H' cls d, SR T (here H ι Hs) ι' Hs' H' cs' → ExcR T Hs' ι' cls d x → E cls d H'
      | none => False) : PostS T (here H ι Hs) (fun cls d _ H => E cls d H) ι Hs (exs P body st) { nx := fun _ H' => Q .non H', rt := Q } := by
  revert h
  cases exs P body st with
  | bad => exact fun h => h
  | exc x s => exact fun h ι' Hs' H' σ' cls d p e R r => h ι' Hs' H' cls d R.s r
  | ok fl s =>
    cases fl with
    | nx => exact fun h ι' Hs' H' σ' p e R => h ι' Hs' H' _ R.s .non
    | rt d => exact fun h ι' Hs' H' σ' p e R v r => h ι' Hs' H' v R.s r
    | bk => exact fun h => h.elim
    | ct => exact fun h => h.elim
/-- a def, walked -/
theorem def_ok {T : Tb} {P : Pg} {prog : Program} {w : World} {mg : Str → Option Value} {base : Heap} {k : Nat} {x qual : Str} {params : Arguments} {body : List Stmt} {scope : Scope} {dvs : List V} {kws : List (Str × V)} {f : Addr} {fd : FuncData} {N ps : List Str} {ir : Sts}
    (cl : Bool) (S : SF T P mg) (bno : ∀ x ∈ bnm, mg x = none) (xf : XF T P prog mg) (xg : XG T P mg) (G : ∀ f, f < P.dn → FnA T P prog w mg base k f)
    (F : FunD T.K x qual params body scope dvs kws f fd) (sc : FnScope N ps scope) (h : okSs cl true P N ir scope.names body = true) :
    FnOk prog w T.K mg base (cxB cl prog w) (k + 3) f fd ps (spF T (semN P ps.length N.length ir)) := by
  refine F.ok (k := k + 2) sc (fun vs H Q E h => ?_) fun cdv A outer s H vs Q E hr hsp => ?_
  · obtain ⟨ι, Hs, cs, ds, S, r, h⟩ := h
    rw [r.length]
    unfold semN at h
    split at h
    · next e => split at e <;> first | assumption | cases e
    · next e => split at e <;> first | assumption | cases e
    · exact h.elim
  · obtain ⟨ι, Hs, cs, ds, S0, r, h0⟩ := hsp
    refine ⟨TS' T (here H ι Hs) (fun cls d _ H => E cls d H) (exs P ir), ?_, ι, Hs, _, rel_start (N := N) S0 r, ?_⟩
    · refine sndSs ir (k := k) (N := N) (sc := scope.names) ⟨⟨rfl, rfl, sc.nd, rfl, sc.kind, rfl, S, bno, hr, G⟩, ?_, fun _ _ => .inl rfl, ?_, fun _ => ?_, xf, xg, rfl, rfl⟩ body h _
      · cases cl with
        | false => exact L2.takes_of rfl rfl rfl rfl
        | true => exact L2N.takes_of rfl rfl rfl rfl
      · exact passes_of rfl
      · exact L2H.passesAt_of rfl
    · refine post_start ?_
      have e : semN P ps.length N.length ir ds cs = runD P N.length ir ds cs := by
        unfold semN at h0 ⊢
        by_cases hl : ds.length = ps.length
        · rw [if_pos hl]
        · rw [if_neg hl] at h0; exact h0.elim
      rw [e] at h0
      exact h0
end Lit
end
section
set_option maxHeartbeats 4000000
namespace PySem
namespace XI
open PySem.W PySem.Calls PyProof.Rows PySem.HandSPX
theorem refs_of : ∀ l : List Value, excTail veL l = true → refsVE l = true := by
  intro l
  induction l with
  | nil => intro h; exact absurd h (by decide)
  | cons a r ih =>
    intro e
    rcases excTail_cases (a :: r) e with ⟨c, r', q, h'⟩ | q
    · obtain ⟨rfl, rfl⟩ := List.cons.inj q
      exact ih h'
    · rw [q]; decide +kernel
theorem cls_of {K : Frag} {C : Addr} (q : excInitIn K C veL "ValueError.__new__" = true) (hd : hasDictIn K C = true) :
    ∃ nm q N bs bm sn sub ab col dd k0 k1 k2 k3 k5, K.lookup C = some (excClassObj nm q C N bs bm true sn sub ab col dd k0 k1 k2 k3 k5 "ValueError.__new__") ∧ refsVE bm = true := by
  unfold excInitIn at q
  split at q
  · rename_i dd cd sl ho
    split at q
    · rename_i C' bm k0 k1 k2 k3 n k5 hm hs
      simp only [Bool.and_eq_true, beq_iff_eq, Bool.not_eq_true'] at q
      obtain ⟨⟨⟨rfl, rfl⟩, hdel⟩, ht⟩ := q
      have hh : cd.hasDict = true := by
        unfold hasDictIn clsIn at hd
        rw [ho] at hd
        simpa using hd
      obtain ⟨nm, bs, mro, ns, qn, hdc, sn, sub, ab, col, del⟩ := cd
      dsimp only at hm hdel hh
      subst hm hdel hh
      have hsl : sl = #[k0, k1, k2, k3, some (.builtin "ValueError.__new__"), k5] := by
        obtain ⟨l⟩ := sl
        simp only at hs
        rw [hs]
      subst hsl
      exact ⟨nm, qn, ns, bs, bm, sn, sub, ab, col, dd, k0, k1, k2, k3, k5, ho, refs_of _ ht⟩
    · cases q
  · cases q
theorem itxt_of {fld pn : Str} {a1 a2 : Arg} {body : List Stmt} {sc : Scope} (h1 : a1.arg = ("self" : Str)) (h2 : a2.arg = pn) (h3 : ("self" : Str) ≠ pn) (h4 : (pn == ("__debug__" : Str)) = false) (hb : bodyB fld pn body = true) (hs : scopeB pn sc = true) : ∃ msg, ITxt fld pn msg [a1, a2] body sc := by
  unfold bodyB at hb
  split at hb
  · simp only [Bool.and_eq_true, decide_eq_true_eq] at hb
    obtain ⟨⟨⟨⟨⟨rfl, rfl⟩, hl⟩, rfl⟩, rfl⟩, rfl⟩ := hb
    simp only [scopeB, Bool.and_eq_true, decide_eq_true_eq, Bool.not_eq_true', List.all_eq_true] at hs
    obtain ⟨⟨⟨⟨⟨⟨⟨s1, s2⟩, s3⟩, s4⟩, s5⟩, s6⟩, s7⟩, s8⟩ := hs
    exact ⟨_, by simp [h1, h2], h3, h4, ⟨_, _, _, _, _, _, _, _, _, _, _, rfl, hl⟩, s1, s2, s3, s4, s5, s6, s7, s8⟩
  · cases hb
theorem fn_of {Pm : Program} {K : Frag} {C fI : Addr} {fld : Str} (h : initB Pm K C fI fld = true) :
    ∃ (oc : Value) (od : Option Addr) (qual : Str) (as : List Arg) (kwd : List (Option Expr)) (dfl : List Expr) (body : List Stmt) (sc : Scope) (pn msg : Str) (kV doc pm : Value) (an : Option Addr) (cda cc : Addr) (ct : Value) (osl : Array (Option Value)) (ccl cl : Value) (cdd cld : Option Addr) (ccs csl : Array (Option Value)) (vs : Array Value) (file : Str) (tf : Tok),
    ITxt fld pn msg as body sc ∧ K.lookup fI = some ⟨oc, od, .func (ksFn "__init__" qual ⟨[], as, none, [], kwd, none, dfl⟩ body sc .none kV doc pm an (.ref cda) ct cc), osl⟩ ∧ codeIn K (.ref cda) qual = true ∧
    K.lookup cc = some ⟨cl, cld, .cell (some (.ref C)), csl⟩ ∧ K.lookup cda = some ⟨ccl, cdd, .fields vs, ccs⟩ ∧ vs[2]? = some (.str file tf) ∧ ((Pm.main.file : Str) == file) = true := by
  unfold initB at h
  split at h
  · next oc od fd osl ho =>
    unfold fnB at h
    split at h
    · next name qual a1 a2 kwd dfl body sc gl cn cc kV doc pm an cda ct blt =>
      simp only [Bool.and_eq_true, decide_eq_true_eq, Bool.not_eq_true', decide_eq_false_iff_not] at h
      obtain ⟨⟨⟨⟨⟨⟨⟨⟨⟨⟨⟨rfl, h1⟩, h2⟩, h3⟩, h4⟩, h5⟩, rfl⟩, rfl⟩, rfl⟩, h6⟩, h7⟩, h8⟩ := h
      obtain ⟨msg, I⟩ := itxt_of h1 rfl h2 h3 h4 h5
      unfold cellB at h7
      split at h7
      · next cl cld C' csl hc =>
        have h7 : C' = C := by simpa using h7
        subst h7
        unfold codeB at h8
        split at h8
        · next ccl cdd vs ccs hcd =>
          split at h8
          · next file tf hv => exact ⟨oc, od, qual, [a1, a2], kwd, dfl, body, sc, a2.arg, msg, kV, doc, pm, an, cda, cc, ct, osl, ccl, cl, cdd, cld, ccs, csl, vs, file, tf, I, ho, h6, hc, hcd, hv, h8⟩
          · cases h8
        · cases h8
      · cases h7
    · cases h
  · cases h
end XI
end PySem
end
section
set_option maxHeartbeats 4000000
namespace Lit
open PySem L2 PyProof.Rows
/-- an expression where the running code is the def's own -/
structure PEa (b : List Stmt) (X : Cx) (e : Expr) (t : TE) : Prop where
  run : ∀ (pins : List (Addr × Obj)) (s : Shared) (σ : L2.St) (H : Hp) (Q : VK), Inv X pins σ H s → t σ H Q → _root_.PySem.wpAt (model X.prog X.w) X.A (.func b X.env) (eval e X.env) (EP X pins σ Q) X.xe s
structure PSa (b : List Stmt) (X : Cx) (st : Stmt) (t : TS) : Prop where
  run : ∀ (pins : List (Addr × Obj)) (s : Shared) (σ : L2.St) (H : Hp) (D : Ends), Inv X pins σ H s → t D σ H → _root_.PySem.wpAt (model X.prog X.w) X.A (.func b X.env) (exec st X.env) (SP X pins D) X.xe s
structure PSsa (b : List Stmt) (X : Cx) (st : List Stmt) (t : TS) : Prop where
  run : ∀ (pins : List (Addr × Obj)) (s : Shared) (σ : L2.St) (H : Hp) (D : Ends), Inv X pins σ H s → t D σ H → _root_.PySem.wpAt (model X.prog X.w) X.A (.func b X.env) (execs st X.env) (SP X pins D) X.xe s
/-- what super(), said in a class, finds -/
structure SpF (T : Tb) (P : Pg) (prog : Program) (mg : Str → Option Value) : Prop where
  spr : ∀ c0 c m f, P.spr c0 c m = some f → f < P.dn ∧ (PySem.W.clsIn T.K (T.cad c0)).isSome = true ∧ PySem.W.mroIn T.K (T.cad c) (.ref (T.cad c0)) = some true ∧ PySem.W.ks_superIn T.K (T.cad c) (T.cad c0) m = some (some (.ref (T.fad f))) ∧
    PySem.W.typeIn T.K (.ref (T.fad f)) = some (.type "function") ∧ PySem.W.fnIn T.K (T.fad f) = true ∧ (m == ("__class__" : Str)) = false
  tp : PySem.W.nsIn T.K cStatics "thirdparty.any" = some none
  gsup : mg "super" = none
  main : (prog.main.scope.names.lookup ("super" : Str)).isSome = false
/-- the block of a def that says super(), in the class c0 -/
structure SupX (T : Tb) (X : Cx) (c0 : Nat) : Prop where
  ex : ∃ (qual : Str) (scope : Scope) (f0 cda cc L : Addr) (fd : FuncData) (ar : Arg) (oc ccl cl : Value) (od cdd cld : Option Addr) (osl ccs csl : Array (Option Value)) (vs : Array Value) (file : Str) (tf : Tok),
    X.env = PySem.W.ksEnv qual scope L f0 (.ref cda) cc ∧ X.K.lookup f0 = some ⟨oc, od, .func fd, osl⟩ ∧ (fd.params.posonlyargs ++ fd.params.args).head? = some ar ∧ X.N[(0 : Nat)]? = some ar.arg ∧ scope.names.lookup ar.arg = some .local ∧
    X.K.lookup cda = some ⟨ccl, cdd, .fields vs, ccs⟩ ∧ vs[2]? = some (.str file tf) ∧ ((X.prog.main.file : Str) == file) = true ∧ X.K.lookup cc = some ⟨cl, cld, .cell (some (.ref (T.cad c0))), csl⟩ ∧
    scope.kind = .function ∧ scope.names.lookup ("super" : Str) = some .globalImplicit ∧ scope.names.lookup ("__class__" : Str) = some .free
section
variable {T : Tb} {F : Fr} {W : WX} {X : Cx} {P : Pg} {b : List Stmt} {c0 k : Nat} {a e : Expr} {fa fb fe : Stt → Out Rv} {pos apos p0 p1 : Pos} {m : Str}
theorem pea_of {t : TE} (h : PE X e t) : PEa b X e t := ⟨fun pins s σ H Q I q => wpAt_of_wpAny (h.run pins s σ H Q I q)⟩
theorem psa_of {st : Stmt} {t : TS} (h : PS X st t) : PSa b X st t := ⟨fun pins s σ H Q I q => wpAt_of_wpAny (h.run pins s σ H Q I q)⟩
theorem pssa_of {st : List Stmt} {t : TS} (h : PSs X st t) : PSsa b X st t := ⟨fun pins s σ H Q I q => wpAt_of_wpAny (h.run pins s σ H Q I q)⟩
theorem cls_at {σ : L2.St} {ι : List Addr} {Hs H : Hp} {st : Stt} (R : Rel T F ι Hs H σ st) {v : V} {d : D} {c : Nat} (r : Rp T Hs ι v d) (hc : clsOf m st d = some c) : ∃ a dx gs, v = .ref a ∧ H a = some (.ins (T.cad c) dx gs) := by
  cases d with
  | ins c' ds =>
    cases hc
    cases r with
    | ins hs fr rl => exact ⟨_, _, _, rfl, R.s.sub _ _ hs⟩
  | own n =>
    simp only [clsOf] at hc
    split at hc
    · next c' fs hcs =>
      split at hc
      · cases hc
        cases r with
        | own hi =>
          obtain ⟨dx, gs, hg, fp⟩ := R.s.cell n _ _ hi hcs
          exact ⟨_, _, _, rfl, hg⟩
      · cases hc
    · cases hc
  | _ => cases hc
theorem tea_sup0 (SX : SupX T X c0) (SP : SpF T P X.prog X.mg) (hK : X.K = T.K) (G : ∀ f, f < P.dn → FnA T P X.prog X.w X.mg X.base k f) (hr : Room k X.A) (tk : ∀ (c f : Nat), P.spr c0 c m = some f → ∀ σ, PassesAt (cxB (P.cln f) X.prog X.w) X σ (WE W σ)) (hl : (apos.endLine == pos.line) = true) :
    PEa b X (.Call (.Attribute (.Call (.Name "super" p0) [] [] p1) m apos) [] [] pos) (TE' T F W (ev P (.sup c0 m .nil))) := by
  obtain ⟨qual, scope, f0, cda, cc, L, fd, ar, oc, ccl, cl, od, cdd, cld, osl, ccs, csl, vs, file, tf, eE, hf0, hhd, hN0, hloc, hcda, hvs, hfile, hcc, hkind, hsup, hcls⟩ := SX.ex
  refine ⟨fun pins s σ H Q I ⟨ι, Hs, st, R, h⟩ => ?_⟩
  simp only [ev] at h
  cases e0 : st.env[(0 : Nat)]? with
  | none => rw [e0] at h; exact h.elim
  | some sl =>
    rw [e0] at h
    cases sl with
    | no => exact h.elim
    | mu xs => exact h.elim
    | sh d =>
      simp only at h
      cases hc : clsOf m st d with
      | none => rw [hc] at h; exact h.elim
      | some c =>
        rw [hc] at h
        simp only at h
        cases hp : P.spr c0 c m with
        | none => rw [hp] at h; exact h.elim
        | some f =>
          rw [hp] at h
          have h : Post T F W σ (rE T F σ) ι Hs (callF P f [d] st) Q := h
          obtain ⟨v, hv, rv⟩ := R.e.at_ 0 _ e0
          obtain ⟨x, dx, gs, rfl, hH⟩ := cls_at R rv hc
          obtain ⟨q1, q2, q3, q4, q5, q6, q7⟩ := SP.spr c0 c m f hp
          obtain ⟨kp, fd', ps, dvs, dus, hb, hdv, rd, ok⟩ := G f q1
          have tp := SP.tp
          rw [← hK] at q2 q3 q4 q5 q6 kp hb ok tp
          obtain ⟨cdD, hD⟩ := Option.isSome_iff_exists.mp q2
          have KI := I.kIn
          obtain ⟨m0, hns, hlk⟩ := I.loc
          obtain ⟨u, ru, hu⟩ := hlk 0 ar.arg (.ref x) hN0 hv (by rw [eE]; exact .inl hloc)
          obtain rfl : u = Value.ref x := ru
          have m0x : m0 ar.arg = some (Value.ref x) := by
            rcases hu with ⟨_, hu⟩ | ⟨hu, _⟩
            · exact hu
            · rw [eE] at hu
              have hu : scope.names.lookup ar.arg = some .cell ∨ scope.names.lookup ar.arg = some .free := hu
              rw [hloc] at hu
              rcases hu with hu | hu <;> cases hu
          obtain ⟨mA, O, _⟩ := ins_get I.hok hH
          obtain ⟨odx, IA, _⟩ := O.look
          have sp := call_core (T := T) (F := F) (W := W) (vs := [V.ref x]) (dvs := dvs) R (.cons rv .nil) rd h
          have env0 := I.env0
          have hgl := I.ok.mod.glob.keeps I.bk
          obtain ⟨mb, hbl, hbt⟩ := I.ok.mod.blt
          have hbl := hbl.keeps I.bk
          have J : ∀ h' t', (∀ b o, s.heap.get? b = some o → h'.get? b = some o) → Inv X pins σ H { s with heap := h', toks := t' } := fun h' t' k => I.kept k
          have eG : X.env.globals = mainGlobals := I.ok.glob
          refine ks_wpAt_MethodCall (pl := L2.plainOf (.Call (.Name "super" p0) [] [] p1) X.env) ?_ ?he
          case he =>
            rw [arm_eval_Call]
            refine bind_congr fun ov => bind_congr fun _ => ?_
            exact L2.mcall_line rfl hl
          rw [eE]
          rw [eE] at hns
          refine PySem.ks_wpAt_super_base (env := PySem.W.ksEnv qual scope L f0 (.ref cda) cc) hsup hcls q7 rfl (KI _ _ hf0) rfl hhd rfl (KI _ _ hcda) rfl hvs hfile SP.main ?_
          refine PySem.W.ks_loadName_global hkind hsup (PySem.Calls.loadGlobal_builtin (env := PySem.W.ksEnv qual scope L f0 (.ref cda) cc) hgl SP.gsup hbl ((hbt "super" (by decide)).trans (show bootBuiltins "super" = some (.type "super") by decide +kernel)) ⟨rfl, ?_⟩)
          refine wpAny_loadName_free hkind hcls rfl ⟨_, KI _ _ hcc, rfl⟩ ?_
          refine wpAny_loadName_local hkind hloc hns m0x ?_
          obtain ⟨oD, hD1, hD2⟩ : ∃ oD, s.heap.get? (T.cad c0) = some oD ∧ oD.data = .cls cdD := by
            unfold PySem.W.clsIn at hD
            split at hD
            · rename_i c d cd' sl ho
              cases hD
              exact ⟨_, KI _ _ ho, rfl⟩
            · cases hD
          obtain ⟨hh, gg, dr, tt, os⟩ := s
          refine PySem.ks_wpAny_isType_cls hD1 hD2 ⟨rfl, ?_⟩
          refine PySem.ks_wpAny_call_super hD1 hD2 IA.at_ IA.cls (fun c e => ?_) (PySem.W.looks_mroIn KI q3) (fun h2 e2 k2 => ?_)
          · have := IA.no
            unfold PySem.W.notCls at this
            rw [e] at this
            exact Bool.noConfusion this
          · have K2 : X.K.In h2 := KI.keeps k2
            cases hcC : PySem.W.clsIn X.K (T.cad c) with
            | none => unfold PySem.W.ks_superIn at q4; rw [hcC] at q4; cases q4
            | some cd =>
              have q4' := q4
              unfold PySem.W.ks_superIn at q4'
              rw [hcC] at q4'
              obtain ⟨of, hof, hofc⟩ : ∃ of, h2.get? (T.fad f) = some of ∧ of.cls = .type "function" := by
                have ht' : (X.K.lookup (T.fad f)).map (·.cls) = some (.type "function") := q5
                cases z : X.K.lookup (T.fad f) with
                | none => rw [z] at ht'; cases ht'
                | some of => rw [z] at ht'; exact ⟨of, K2 _ _ z, Option.some.inj ht'⟩
              refine PySem.ks_wpAny_getMethod_super e2 (PySem.W.looks_opaque K2 tp) (l₀ := cd.mro) (fun A Q E s k q => wpAny_bind ((PySem.W.looks_clsIn K2 hcC) A _ E s k (wpAny_pure q))) rfl K2 q4' hof hofc (PySem.W.ks_ne KI IA hcC) q7 ?_
              have k3 : ∀ b o, h2.get? b = some o → (h2.push (PySem.W.methodObj (.ref (T.fad f)) (.ref x))).get? b = some o := fun b o e => Heap.get?_push_of_some _ e
              have ho3 : (h2.push (PySem.W.methodObj (.ref (T.fad f)) (.ref x))).get? h2.objs.size = some (PySem.W.methodObj (.ref (T.fad f)) (.ref x)) := Heap.get?_push_at rfl rfl
              have J3 := J (h2.push (PySem.W.methodObj (.ref (T.fad f)) (.ref x))) (tt + 1) fun b o e => k3 _ _ (k2 _ _ e)
              refine PySem.W.callWith_M0 (K := X.K) (g := T.fad f) (self := .ref x) ⟨ho3, J3.kIn⟩ q6 ?_
              have r2 : Vals (V.ref x :: dvs) (Value.ref x :: dus) := .cons rfl hdv
              have hln : (Value.ref x :: dus).length = ps.length := by rw [← r2.length]; exact ok.len _ _ _ _ sp
              refine wpAny_call (PySem.W.method_call ho3 (codeAny_mono (ok.run X.A X.stack _ H ⟨[.ref x], []⟩ (Value.ref x :: dus) (V.ref x :: dvs) Q (WE W σ) hr J3.env0 (hb _ [.ref x] J3.kIn hln) r2 sp) fun r s' hq => ?_))
              cases r with
              | error e => exact tk c f hp σ pins H _ e s' J3 hq
              | ok fl =>
                cases fl with
                | ret u => exact J3.after hq
                | next => exact False.elim hq
                | brk => exact False.elim hq
                | cont => exact False.elim hq
theorem tea_bin {o : Operator} (ha : PEa b X a (TE' T F W fa)) (hb : PE X e (TE' T F W fb)) : PEa b X (.BinOp a o e pos) (TE' T F W (two (gBin o) fa fb)) := ⟨fun pins s σ H Q I h => by
  have h := two_read h
  exact ks_wpAt_BinOp (ks_wpAt_mono (ha.run pins s σ H _ I h) (fun v s1 ⟨x, H1, I1, r1, q1⟩ => thn (hb.run pins s1 σ H1 _ I1 q1) fun u s2 ⟨y, H2, I2, r2, q2⟩ => (bin_g o).r pins s2 σ H2 x y v u Q I2 r1 r2 q2) fun _ _ x => x)⟩
theorem tsa_ret (he : PEa b X e (TE' T F W fe)) : PSa b X (.Return (some e) pos) (TS' T F W fun st => (fe st).bind fun r s => (capO r s).bind fun d s1 => .ok (.rt d) s1) := ⟨fun pins s σ H Z I ⟨ι, Hs, st, R, h⟩ => by
  refine ks_wpAt_Return_some (ks_wpAt_mono (he.run pins s σ H Z.rt I (PostS.firstC R h fun ι1 Hs1 H1 st1 v d p1 e1 R1 r1 h1 => h1 ι1 Hs1 H1 σ (List.prefix_refl _) (Same.refl _) R1 v r1)) (fun v s1 ⟨x, H1, I1, r1, q1⟩ => ?_) fun _ _ x => x)
  exact ⟨x, σ, H1, I1, r1, q1⟩⟩
theorem tsa_cons {s : Stmt} {ss : List Stmt} {f g : Stt → Out Flow'} (h1 : PSa b X s (TS' T F W f)) (h2 : PSsa b X ss (TS' T F W g)) : PSsa b X (s :: ss) (TS' T F W (seqF f g)) := ⟨fun pins s0 σ H Z I ⟨ι, Hs, st, R, h⟩ => by
  refine ks_wpAt_execs_cons (ks_wpAt_mono (h1.run pins s0 σ H { Z with nx := fun σ' H' => TS' T F W g Z σ' H' } I ⟨ι, Hs, st, R, ?_⟩) (fun fl s1 q => ?_) fun _ _ x => x)
  · unfold seqF at h
    cases e : f st with
    | bad => rw [e] at h; exact h
    | exc x s => rw [e] at h; exact h
    | ok fl s =>
      rw [e] at h
      cases fl with
      | nx => exact fun ι' Hs' H' σ' p e R' => ⟨ι', Hs', s, R', PostS.up h p e⟩
      | rt d => exact h
      | bk => exact h
      | ct => exact h
  · cases fl with
    | next =>
      obtain ⟨σ', H', I', q⟩ := q
      exact h2.run pins s1 σ' H' Z I' q
    | ret v => exact q
    | brk => exact q
    | cont => exact q⟩
end
/-- super().m() at the left end of a chain of operators -/
def okA (P : Pg) (N : List Str) (c0 : Nat) : E → List (Str × NameKind) → Expr → Bool
  | .sup c m .nil, _, e => match e with
    | .Call (.Attribute (.Call (.Name sn _) [] [] _) x ap) [] [] ps => decide (sn = "super") && decide (c = c0) && decide (x = m) && ap.endLine == ps.line
    | _ => false
  | .bin o a b, sc, e => match e with
    | .BinOp ea p eb _ => decide (o = p) && okA P N c0 a sc ea && okE false P N b sc eb
    | _ => false
  | _, _, _ => false
def okSA (P : Pg) (N : List Str) (c0 : Nat) : St → List (Str × NameKind) → Stmt → Bool
  | .ret e, sc, s => match s with
    | .Return (some ex) _ => okA P N c0 e sc ex
    | _ => false
  | _, _, _ => false
def okSAs (P : Pg) (N : List Str) (c0 : Nat) : Sts → List (Str × NameKind) → List Stmt → Bool
  | .nil, _, ss => match ss with
    | [] => true
    | _ => false
  | .cons a as, sc, ss => match ss with
    | s :: ss => (okS false true P N a sc s || okSA P N c0 a sc s) && okSAs P N c0 as sc ss
    | _ => false
section
variable {T : Tb} {P : Pg} {k c0 : Nat} {N : List Str} {W : WX} {X : Cx} {b : List Stmt} {sc : List (Str × NameKind)}
theorem sndA (C : COS false true T P k N sc W X) (SX : SupX T X c0) (SP : SpF T P X.prog X.mg) : (ir : E) → ∀ (e : Expr), okA P N c0 ir sc e = true → ∀ F, PEa b X e (TE' T F W (ev P ir))
  | .sup c m .nil, e, h, F => by
    simp only [okA] at h
    split at h
    · simp only [Bool.and_eq_true, decide_eq_true_eq] at h
      obtain ⟨⟨⟨rfl, rfl⟩, rfl⟩, h4⟩ := h
      exact tea_sup0 SX SP C.co.K C.co.fns (C.co.room.mono (by omega)) (fun c f hp => passB C.tk fun z => nomatch z) h4
    · cases h
  | .bin o a b', e, h, F => by
    simp only [okA] at h
    split at h
    · simp only [Bool.and_eq_true, decide_eq_true_eq] at h
      obtain ⟨⟨rfl, h2⟩, h3⟩ := h
      exact tea_bin (sndA C SX SP a _ h2 F) ((sndE b' C.co C.tk _ h3).e F)
    · cases h
  | .sup c m (.cons _ _), _, h, _ => by cases h
  | .v _, _, h, _ => by cases h
  | .k _, _, h, _ => by cases h
  | .g _, _, h, _ => by cases h
  | .cmp .., _, h, _ => by cases h
  | .chn .., _, h, _ => by cases h
  | .and _, _, h, _ => by cases h
  | .or _, _, h, _ => by cases h
  | .not _, _, h, _ => by cases h
  | .neg _, _, h, _ => by cases h
  | .ife .., _, h, _ => by cases h
  | .lst _, _, h, _ => by cases h
  | .tup _, _, h, _ => by cases h
  | .cell _, _, h, _ => by cases h
  | .ix .., _, h, _ => by cases h
  | .sl .., _, h, _ => by cases h
  | .call .., _, h, _ => by cases h
  | .bi .., _, h, _ => by cases h
  | .lrng _, _, h, _ => by cases h
  | .me .., _, h, _ => by cases h
  | .mu .., _, h, _ => by cases h
  | .fld .., _, h, _ => by cases h
  | .con .., _, h, _ => by cases h
  | .inv .., _, h, _ => by cases h
  | .mk .., _, h, _ => by cases h
  | .sto .., _, h, _ => by cases h
  | .isi .., _, h, _ => by cases h
  | .lc .., _, h, _ => by cases h
  | .no, _, h, _ => by cases h
theorem sndAs (C : COS false true T P k N sc W X) (SX : SupX T X c0) (SP : SpF T P X.prog X.mg) : ∀ (ir : Sts) (ss : List Stmt), okSAs P N c0 ir sc ss = true → ∀ F, PSsa b X ss (TS' T F W (exs P ir))
  | .nil, ss, h, F => by
    simp only [okSAs] at h
    split at h
    · exact pssa_of ts_nil
    · cases h
  | .cons a as, ss, h, F => by
    simp only [okSAs] at h
    split at h
    · next s ss =>
      simp only [Bool.and_eq_true, Bool.or_eq_true] at h
      refine tsa_cons (f := ex P a) (g := exs P as) ?_ (sndAs C SX SP as _ h.2 F)
      rcases h.1 with h1 | h1
      · exact psa_of (sndS a C _ h1 F)
      · cases a <;> first | cases h1 | skip
        simp only [okSA] at h1
        split at h1
        · exact tsa_ret (sndA C SX SP _ _ h1 F)
        · cases h1
    · cases h
end
end Lit
end
section
set_option maxHeartbeats 4000000
namespace Lit
open PySem PySem.Spec L2 PyProof.Rows He
/-- the object of such a def, said in the class at C -/
structure FunS (prog : Program) (K : PySem.W.Frag) (C : Addr) (x qual : Str) (params : Arguments) (body : List Stmt) (scope : Scope) (f : Addr) (fd : FuncData) : Prop where
  ex : ∃ (oc : Value) (od : Option Addr) (kV doc pm : Value) (an : Option Addr) (cda cc : Addr) (ct : Value) (osl : Array (Option Value)) (ccl cl : Value) (cdd cld : Option Addr) (ccs csl : Array (Option Value)) (vs : Array Value) (file : Str) (tf : Tok),
    fd = PySem.W.ksFn x qual params body scope .none kV doc pm an (.ref cda) ct cc ∧ K.lookup f = some ⟨oc, od, .func fd, osl⟩ ∧ PySem.W.codeIn K (.ref cda) qual = true ∧
    K.lookup cc = some ⟨cl, cld, .cell (some (.ref C)), csl⟩ ∧ K.lookup cda = some ⟨ccl, cdd, .fields vs, ccs⟩ ∧ vs[2]? = some (.str file tf) ∧ ((prog.main.file : Str) == file) = true
  kp : PySem.W.keepIn K (.ref f) = true
theorem FunS.binds {prog : Program} {K : PySem.W.Frag} {C : Addr} {x qual : Str} {as : List Arg} {kwd : List (Option Expr)} {dfl : List Expr} {body : List Stmt} {scope : Scope} {f : Addr} {fd : FuncData} (F : FunS prog K C x qual ⟨[], as, none, [], kwd, none, dfl⟩ body scope f fd) (nd : (as.map (·.arg)).Nodup) : Binds K fd (as.map (·.arg)) [] := by
  obtain ⟨oc, od, kV, doc, pm, an, cda, cc, ct, osl, ccl, cl, cdd, cld, ccs, csl, vs, file, tf, rfl, _⟩ := F.ex
  refine Binds.all fun us hu => ?_
  have := bind_all (x := x) (qual := qual) (body := body) (scope := scope) (kV := kV) (doc := doc) (pm := pm) (cdv := .ref cda) (ct := ct) (an := an) (as := as) (kwd := kwd) (dfl := dfl) (us := us) (by simpa using hu) nd
  exact this
theorem rel_startF {T : Tb} {ι : List Addr} {Hs H : Hp} {cs : List Cell} {vs : List V} {ds : List D} {N : List Str} {w : Option V} (S : SR T (here H ι Hs) ι Hs H cs) (r : RpL T Hs ι vs ds) (hn : vs.length + 1 ≤ N.length) :
    Rel T (here H ι Hs) ι Hs H (NdefX.startF N vs [w]) ⟨ds.map .sh ++ List.replicate (N.length - ds.length) .no, cs⟩ := by
  have hl := r.length
  refine ⟨S, ⟨by simp [NdefX.startF, hl]; omega, fun i s h => ?_, fun i j xs ys p h => ?_, fun q hq => absurd (show q ∈ ([] : List (Addr × HO)) from hq) (by simp)⟩⟩
  · by_cases hi : i < ds.length
    · rw [List.getElem?_append_left (by simpa using hi), List.getElem?_map] at h
      cases e : ds[i]? with
      | none => rw [e] at h; cases h
      | some d =>
        rw [e] at h
        cases h
        obtain ⟨v, hv, rv⟩ := r.get e
        refine ⟨v, ?_, rv⟩
        show (vs.map some ++ _)[i]? = _
        rw [List.getElem?_append_left (by simp [hl, hi]), List.getElem?_map, hv]
        rfl
    · rw [List.getElem?_append_right (by simpa using hi)] at h
      rw [List.getElem?_replicate] at h
      split at h
      · cases h; trivial
      · cases h
  · exfalso
    by_cases hi : i < ds.length
    · rw [List.getElem?_append_left (by simpa using hi), List.getElem?_map] at h
      cases e : ds[i]? with
      | none => rw [e] at h; cases h
      | some d => rw [e] at h; cases h
    · rw [List.getElem?_append_right (by simpa using hi)] at h
      rw [List.getElem?_replicate] at h
      split at h <;> cases h
theorem loc_nocell {sc : Scope} (hn : ∀ y ∈ sc.names, y.2 ≠ .cell) {x : Str} (h : L2.Loc sc x) : sc.names.lookup x = some .local := by
  rcases h with h | h
  · exact h
  · exact absurd rfl (hn _ (PySem.mem_of_lookup h))
theorem def_okS {T : Tb} {P : Pg} {prog : Program} {w : World} {mg : Str → Option Value} {base : Heap} {k c0 : Nat} {x qual : Str} {params : Arguments} {body : List Stmt} {scope : Scope} {f : Addr} {fd : FuncData} {N ps : List Str} {ir : Sts} {ar : Arg}
    (S : SF T P mg) (bno : ∀ x ∈ bnm, mg x = none) (xf : XF T P prog mg) (xg : XG T P mg) (sp : SpF T P prog mg) (G : ∀ f, f < P.dn → FnA T P prog w mg base k f)
    (F : FunS prog T.K (T.cad c0) x qual params body scope f fd) (sc : NdefX.NScope N ps ["__class__"] scope) (har : (params.posonlyargs ++ params.args).head? = some ar) (hps : ps[(0 : Nat)]? = some ar.arg) (hsup : scope.names.lookup ("super" : Str) = some .globalImplicit)
    (h : okSAs P N c0 ir scope.names body = true) :
    FnOk prog w T.K mg base (cxB false prog w) (k + 3) f fd ps (spF T (semN P ps.length N.length ir)) := by
  obtain ⟨oc, od, kV, doc, pm, an, cda, cc, ct, osl, ccl, cl, cdd, cld, ccs, csl, vsc, file, tf, rfl, lk, hcd, hcc, hcda, hvs, hfile⟩ := F.ex
  have len : ∀ vs H Q E, spF T (semN P ps.length N.length ir) vs H Q E → vs.length = ps.length := fun vs H Q E h => by
    obtain ⟨ι, Hs, cs, ds, S, r, h⟩ := h
    rw [r.length]
    unfold semN at h
    split at h
    · next e => split at e <;> first | assumption | cases e
    · next e => split at e <;> first | assumption | cases e
    · exact h.elim
  refine ⟨len, fun A outer s H args us vs Q E hr e0 hb r hsp => ?_⟩
  have hl := len _ _ _ _ hsp
  have KX : T.K.In s.heap := e0.mod.kin.keeps fun b o e => (e0.bs b o e).1
  have lim : s.heap.NoLimit := e0.mod.nolimit.keeps fun b o e => (e0.bs b o e).1
  refine ks_codeAny_call_defAt (body := body) (binds := ps.zip us) (hr.mono (by omega) : Room (k + 2) A).depth (KX _ _ lk) rfl lim (PySem.W.codeRec_of KX hcd) rfl hb sc.nocell (fun y hy => sc.par _ (List.of_mem_zip hy).1) (fun h₁ hns hk => ?_) sc.co sc.gen sc.kind
  have hcl : scope.names.lookup ("__class__" : Str) = some .free := sc.frk _ (by simp)
  have Hcc : H cc = none := by
    obtain ⟨_, q⟩ := e0.bs cc _ (e0.mod.kin _ _ hcc)
    exact q
  have CA : NdefX.CellsAt [(("__class__" : Str), cc)] ["__class__"] [some (V.ref (T.cad c0))] s.heap H := by
    refine ⟨rfl, fun y c e => ?_, fun y z c e1 e2 => ?_, fun i y e => ?_⟩
    · have : c = cc := by
        simp only [List.lookup] at e
        split at e
        · exact (Option.some.inj e).symm
        · cases e
      subst this
      exact ⟨Hcc, _, _, KX _ _ hcc, rfl⟩
    · simp only [List.lookup] at e1 e2
      split at e1
      · next q1 =>
        split at e2
        · next q2 =>
          have q1 : y = "__class__" := by simpa using q1
          have q2 : z = "__class__" := by simpa using q2
          rw [q1, q2]
        · cases e2
      · cases e1
    · cases i with
      | zero =>
        have : y = "__class__" := by simpa using e.symm
        subst this
        refine ⟨cc, by simp [List.lookup], fun v hv => ?_⟩
        have : v = V.ref (T.cad c0) := by simpa using hv.symm
        subst this
        exact ⟨_, rfl, _, KX _ _ hcc, rfl⟩
      | succ i => simp at e
  have I := NdefX.inv_startN (CX := cxB false prog w) (P := prog) (w := w) (K := T.K) (mg := mg) (base := base) (N := N) (F := ⟨x, qual, params, body, scope, [("__class__", cc)], cda⟩) (f := f) (E := E) (tk := s.toks + (ps.zip us).length) sc hr.hd e0 hl r CA hns hk
  obtain ⟨ι, Hs, cs, ds, S0, rr, h0⟩ := hsp
  have hpl : vs.length + 1 ≤ N.length := by
    have q := congrArg List.length sc.pre
    rw [List.length_take, List.length_append] at q
    have : (["__class__"] : List Str).length = 1 := rfl
    omega
  have run := sndAs (W := fun cls d _ H => E cls d H) (b := body) (X := NdefX.ncx (cxB false prog w) prog w T.K mg base N ⟨x, qual, params, body, scope, [("__class__", cc)], cda⟩ f A outer s H E) (k := k) (N := N) (sc := scope.names) (c0 := c0) (T := T) (P := P)
    ⟨⟨rfl, rfl, sc.nd, rfl, sc.kind, rfl, S, bno, hr.deeper _, G⟩, L2.takes_of rfl rfl rfl rfl, fun y hy => .inr (loc_nocell sc.nocell hy), passes_of rfl, fun _ => L2H.passesAt_of rfl, xf, xg, rfl, rfl⟩
    ⟨qual, scope, f, cda, cc, s.heap.objs.size, _, ar, oc, ccl, cl, od, cdd, cld, osl, ccs, csl, vsc, file, tf, rfl, lk, har, ?_, ?_, hcda, hvs, hfile, hcc, sc.kind, hsup, hcl⟩ sp ir body h (here H ι Hs)
  · refine ks_wpAt_mono (run.run [] _ _ H { nx := fun _ H' => Q .non H', rt := Q } I ⟨ι, Hs, _, rel_startF (N := N) S0 rr hpl, post_start ?_⟩) (fun fl s' hs => ?_) fun e s' hs => hs
    · have e : semN P ps.length N.length ir ds cs = runD P N.length ir ds cs := by
        unfold semN at h0 ⊢
        by_cases hl : ds.length = ps.length
        · rw [if_pos hl]
        · rw [if_neg hl] at h0; exact h0.elim
      rw [e] at h0
      exact h0
    · have fin : ∀ {σ' : L2.St} {H' : Hp} {v : V} {u : Value}, Inv (NdefX.ncx (cxB false prog w) prog w T.K mg base N ⟨x, qual, params, body, scope, [("__class__", cc)], cda⟩ f A outer s H E) [] σ' H' s' → L2.RelV v u → Q v H' → CE outer prog w H s Q u s' :=
        fun {σ' H' v u} J rv q => ⟨v, H', J.os, J.bare, J.base, J.hok, rv, q⟩
      cases fl with
      | ret u =>
        obtain ⟨v, σ', H', J, rv, q⟩ := hs
        exact fin J rv q
      | next =>
        obtain ⟨σ', H', J, q⟩ := hs
        exact fin (v := V.non) (u := Value.none) J rfl q
      | brk =>
        obtain ⟨_, _, _, q⟩ := hs
        exact False.elim q
      | cont =>
        obtain ⟨_, _, _, q⟩ := hs
        exact False.elim q
  · have q := sc.pre
    show N[(0 : Nat)]? = some ar.arg
    have q2 : (N.take (ps.length + 1))[(0 : Nat)]? = some ar.arg := by
      have q : N.take (ps.length + 1) = ps ++ [("__class__" : Str)] := q
      rw [q]
      cases ps with
      | nil => simp at hps
      | cons p r => simpa using hps
    rw [List.getElem?_take_of_lt (by omega)] at q2
    exact q2
  · exact sc.par _ (List.mem_of_getElem? hps)
end Lit
end
section
set_option maxHeartbeats 4000000
namespace Lit
open PySem PySem.Spec L2 PyProof.Rows He
def pgT (tb : Tbl) (sem : Nat → Sem') : Pg where
  sem := sem
  dfs := fun _ => []
  mth := fun c m => (tb.cl[c]?).bind fun t => t.ms.lookup m
  mki := fun c => (tb.cl[c]?).bind (·.ini)
  con := fun c x => (tb.cl[c]?).bind fun t => t.cs.lookup x
  fld := fun c => match tb.cl[c]? with
    | some t => t.fs
    | none => []
  glb := fun x => tb.gl.lookup x
  fnm := fun f => match tb.ds[f]? with
    | some t => t.d.at_.1
    | none => ""
  cnm := fun c => match tb.cl[c]? with
    | some t => t.nm
    | none => ""
  xfd := fun c => match tb.xs[c]? with
    | some t => t.fs
    | none => []
  xnm := fun c => match tb.xs[c]? with
    | some t => t.nm
    | none => ""
  xin := fun c => match tb.xs[c]? with
    | some t => t.ini
    | none => false
  isx := fun c => decide (c < tb.xs.length)
  mkx := fun c ds => match tb.xs[c]? with
    | some t => if ds.length = 1 then some (if t.ini = true then ds else []) else none
    | none => none
  xsub := fun c d => match tb.xs[c]? with
    | some t => t.sup.contains d
    | none => false
  isc := fun c d => match tb.cl[c]? with
    | some t => t.sup.contains d
    | none => false
  isk := fun c => decide (c < tb.cl.length)
  isg := fun f => match tb.ds[f]? with
    | some t => t.d.at_.2.isNone
    | none => false
  dn := tb.ds.length
  cln := fun f => match tb.ds[f]? with
    | some t => t.cln
    | none => false
  mcl := fun m => tb.cl.all fun t => match t.ms.lookup m with
    | some f => match tb.ds[f]? with
      | some t => t.cln
      | none => false
    | none => true
  spr := fun D c m => match tb.cl[c]? with
    | some t => t.sps.lookup (D, m)
    | none => none
def semT (tb : Tbl) : Nat → Nat → Sem'
  | 0, _ => fun _ _ => none
  | n + 1, f => match tb.ds[f]? with
    | some t => semN (pgT tb (semT tb n)) t.np t.N.length t.ir
    | none => fun _ _ => none
theorem flatV_ok {T : Tb} {d : D} {v : V} (h : flatDV d = some v) (Hs : Hp) (ι : List Addr) : Rp T Hs ι v d := by
  cases d <;> cases h
  · exact .non
  · exact .bl _
  · exact .int _
  · exact .str _
section
variable {tb : Tbl} {K : PySem.W.Frag} {h : Heap} {mg : Str → Option Value}
theorem all_get {α : Type} {p : α → Bool} {l : List α} (h : l.all p = true) {i : Nat} {x : α} (e : l[i]? = some x) : p x = true := List.all_eq_true.mp h x (List.mem_of_getElem? e)
theorem lookup_in {α : Type} {l : List (Str × α)} {x : Str} {y : α} (h : l.lookup x = some y) : (x, y) ∈ l := PySem.mem_of_lookup h
theorem sf_of (X : K.In h) (G : h.Ns mainGlobals mg) (c : facB tb K = true) (sem : Nat → Sem') : SF (tbOf tb K) (pgT tb sem) mg ∧ ∀ x ∈ bnm, mg x = none := by
  simp only [facB, Bool.and_eq_true] at c
  obtain ⟨⟨⟨⟨⟨⟨c1, c2⟩, c3⟩, c4⟩, c5⟩, c6⟩, c7⟩ := c
  have cl : ∀ c, (pgT tb sem).isk c = true → ∃ t, tb.cl[c]? = some t ∧ (tbOf tb K).cad c = ga K t.nm ∧ clsB tb K t = true := fun c hc => by
    have hc : c < tb.cl.length := by simpa [pgT] using hc
    have e := List.getElem?_eq_getElem hc
    exact ⟨_, e, by simp [tbOf, e], all_get c1 e⟩
  refine ⟨⟨fun c => ?_, fun x d hd => ?_, fun f hf => ?_, fun c f hf => ?_, fun c hc => ?_, fun c hc => ?_, fun c f hc hf => ?_, fun c m f hm => ?_, fun c m f hm => ?_, fun c m f hq hm => ?_, fun c f hm => ?_, fun c x d hd => ?_, fun c hc => ?_, ?_, fun c d hc hd => ?_, fun c n hc hn => ?_⟩, fun x hx => free_ok X G (List.all_eq_true.mp c3 x hx)⟩
  · rfl
  · have := List.all_eq_true.mp c2 _ (lookup_in (show tb.gl.lookup x = some d from hd))
    unfold glbB at this
    split at this
    · next v u e1 e2 => exact ⟨v, u, PySem.W.mg_of X G e2, relB_ok this, flatV_ok e1⟩
    · cases this
  · simp only [pgT] at hf ⊢
    cases e : tb.ds[f]? with
    | none => rw [e] at hf; cases hf
    | some t =>
      rw [e] at hf
      have := all_get c4 e
      have hn : t.d.at_.2 = none := by simpa using hf
      rw [hn] at this
      have := glo_ok X G this
      simp only [tbOf, e, fAd, hn]
      exact this
  · simp only [pgT] at hf ⊢
    cases e : tb.cl[c]? with
    | none => rw [e] at hf; cases hf
    | some t => simpa using (List.getElem?_eq_some_iff.mp e).1
  · obtain ⟨t, e, ec, q⟩ := cl c hc
    simp only [clsB, Bool.and_eq_true] at q
    rw [ec]
    exact cls_ok q.1.1.1.1.1.1.1.1
  · obtain ⟨t, e, ec, q⟩ := cl c hc
    simp only [clsB, Bool.and_eq_true] at q
    rw [ec]
    have : (pgT tb sem).cnm c = t.nm := by simp [pgT, e]
    rw [this]
    exact glo_ok X G q.1.1.1.1.1.1.1.2
  · obtain ⟨t, e, ec, q⟩ := cl c hc
    simp only [clsB, Bool.and_eq_true] at q
    rw [ec]
    simp only [pgT, e] at hf
    exact noat_ok (List.all_eq_true.mp q.1.1.1.1.1.1.2 f hf)
  · simp only [pgT] at hm
    cases e : tb.cl[c]? with
    | none => rw [e] at hm; cases hm
    | some t =>
      rw [e] at hm
      have hk : (pgT tb sem).isk c = true := by simpa [pgT] using (List.getElem?_eq_some_iff.mp e).1
      obtain ⟨t', e', ec, q⟩ := cl c hk
      rw [e] at e'; cases e'
      simp only [clsB, Bool.and_eq_true] at q
      have := List.all_eq_true.mp q.1.1.1.1.1.2 _ (lookup_in (show t.ms.lookup m = some f from hm))
      simp only [Bool.and_eq_true, decide_eq_true_eq] at this
      obtain ⟨⟨⟨m1, m2⟩, m3⟩, m4⟩ := this
      refine ⟨hk, ?_, ?_⟩
      · rw [ec]
        have : (tbOf tb K).fad f = ma K (ga K t.nm) m := m2.symm
        rw [this]
        exact meth_ok m1
      · simp only [pgT, e]
        simpa using m3
  · simp only [pgT] at hm
    cases e : tb.cl[c]? with
    | none => rw [e] at hm; cases hm
    | some t =>
      rw [e] at hm
      have hk : (pgT tb sem).isk c = true := by simpa [pgT] using (List.getElem?_eq_some_iff.mp e).1
      obtain ⟨t', e', ec, q⟩ := cl c hk
      rw [e] at e'; cases e'
      simp only [clsB, Bool.and_eq_true] at q
      have := List.all_eq_true.mp q.1.1.1.1.1.2 _ (lookup_in (show t.ms.lookup m = some f from hm))
      simp only [Bool.and_eq_true, decide_eq_true_eq] at this
      exact this.2
  · simp only [pgT] at hm hq ⊢
    cases e : tb.cl[c]? with
    | none => rw [e] at hm; cases hm
    | some t =>
      rw [e] at hm
      have hm : t.ms.lookup m = some f := hm
      have q := all_get hq e
      rw [hm] at q
      exact q
  · simp only [pgT] at hm
    cases e : tb.cl[c]? with
    | none => rw [e] at hm; cases hm
    | some t =>
      rw [e] at hm
      have hk : (pgT tb sem).isk c = true := by simpa [pgT] using (List.getElem?_eq_some_iff.mp e).1
      obtain ⟨t', e', ec, q⟩ := cl c hk
      rw [e] at e'; cases e'
      simp only [clsB, Bool.and_eq_true] at q
      have hm : t.ini = some f := hm
      have := q.1.1.1.1.2
      rw [hm] at this
      simp only [Bool.and_eq_true, decide_eq_true_eq] at this
      refine ⟨hk, ?_⟩
      rw [ec]
      have e2 : (tbOf tb K).fad f = ma K (ga K t.nm) "__init__" := this.2.symm
      rw [e2]
      exact mkr_ok this.1
  · simp only [pgT] at hd
    cases e : tb.cl[c]? with
    | none => rw [e] at hd; cases hd
    | some t =>
      rw [e] at hd
      have hk : (pgT tb sem).isk c = true := by simpa [pgT] using (List.getElem?_eq_some_iff.mp e).1
      obtain ⟨t', e', ec, q⟩ := cl c hk
      rw [e] at e'; cases e'
      simp only [clsB, Bool.and_eq_true] at q
      have := List.all_eq_true.mp q.1.1.1.2 _ (lookup_in (show t.cs.lookup x = some d from hd))
      unfold conB' at this
      split at this
      · next v u e1 e2 =>
        simp only [Bool.and_eq_true] at this
        refine ⟨hk, v, u, ?_, flatV_ok e1⟩
        rw [ec]
        exact ⟨e2, relB_ok this.1.1, eqO_ok this.1.2, by simpa using this.2⟩
      · cases this
  · obtain ⟨t, e, ec, q⟩ := cl c hc
    simp only [clsB, Bool.and_eq_true, decide_eq_true_eq] at q
    rw [ec]
    exact ⟨eqO_ok q.1.1.2, q.1.2⟩
  · exact ⟨eqO_ok c5, of_decide_eq_true c6⟩
  · obtain ⟨t, e, ec, q⟩ := cl c hc
    have hd : d < tb.cl.length := by simpa [pgT] using hd
    have := List.all_eq_true.mp (all_get c7 e) d (List.mem_range.mpr hd)
    rw [ec]
    have e2 : (pgT tb sem).isc c d = t.sup.contains d := by simp [pgT, e]
    rw [e2]
    exact of_decide_eq_true this
  · obtain ⟨t, e, ec, q⟩ := cl c hc
    simp only [clsB, Bool.and_eq_true] at q
    rw [ec]
    exact of_decide_eq_true (List.all_eq_true.mp q.2 n hn)
end
theorem xf_of {tb : Tbl} {K : PySem.W.Frag} {h : Heap} {mg : Str → Option Value} {Pm : Program} (X : K.In h) (G : h.Ns mainGlobals mg) (c : facX Pm tb K = true) (sem : Nat → Sem') : XF (tbOf tb K) (pgT tb sem) Pm mg ∧ XG (tbOf tb K) (pgT tb sem) mg := by
  simp only [facX, Bool.and_eq_true, Bool.not_eq_true'] at c
  obtain ⟨⟨⟨⟨⟨⟨⟨⟨c1, c2⟩, c3⟩, c3'⟩, c4⟩, c5⟩, c6⟩, c7⟩, c8⟩ := c
  have ec : ∀ c, (pgT tb sem).isx c = true → ∃ t, tb.xs[c]? = some t ∧ (tbOf tb K).xad c = ga K t.nm ∧ (tbOf tb K).xfl c = t.fs ∧ (pgT tb sem).xnm c = t.nm ∧ (pgT tb sem).xin c = t.ini ∧ (∀ d, (pgT tb sem).xsub c d = t.sup.contains d) ∧ errB Pm K t = true := fun c hc => by
    have hc : c < tb.xs.length := by simpa [pgT] using hc
    have e := List.getElem?_eq_getElem hc
    exact ⟨_, e, by simp [tbOf, e], by simp [tbOf, e], by simp [pgT, e], by simp [pgT, e], fun d => by simp [pgT, e], all_get c1 e⟩
  have two : ∀ c d, (pgT tb sem).isx c = true → (pgT tb sem).isx d = true → PySem.W.exmOne K (.ref ((tbOf tb K).xad c)) (.ref ((tbOf tb K).xad d)) = some ((pgT tb sem).xsub c d) ∧ PySem.W.kitOne K (.ref ((tbOf tb K).xad c)) (.ref ((tbOf tb K).xad d)) = some ((pgT tb sem).xsub c d) := fun c d hc hd => by
    obtain ⟨t, e, e1, _, _, _, e2, _⟩ := ec c hc
    have hd : d < tb.xs.length := by simpa [pgT] using hd
    have := List.all_eq_true.mp (all_get c8 e) d (List.mem_range.mpr hd)
    simp only [Bool.and_eq_true] at this
    rw [e1, e2]
    exact ⟨of_decide_eq_true this.1, of_decide_eq_true this.2⟩
  refine ⟨⟨fun c hx hi => ?_, fun c hx hi => ?_, fun c ds fs hm => ?_⟩, ⟨fun c hx => ?_, fun c d hc hd => (two c d hc hd).1, fun c d hc hd => (two c d hc hd).2, fun c hx => ?_, fun c hx => ?_, fun c hx => ?_, fun c f hx hf => ?_, fun c => rfl, free_ok X G c3', free_ok X G c3⟩⟩
  · obtain ⟨t, e, e1, e2, e3, e4, _, q⟩ := ec c hx
    rw [e4] at hi
    simp only [errB, hi, Bool.and_eq_true] at q
    obtain ⟨⟨⟨⟨⟨⟨⟨⟨⟨⟨⟨q1, q2⟩, q3⟩, q4⟩, q5⟩, q6⟩, q7⟩, q8⟩, q9⟩, q10⟩, q11⟩, q12⟩ := q
    rcases hfs : t.fs with _ | ⟨fld, _ | ⟨f2, r⟩⟩
    · rw [hfs] at q12; cases q12
    · rw [hfs] at q12
      simp only [iniB, Bool.and_eq_true] at q12
      obtain ⟨⟨⟨⟨⟨⟨⟨r1, r2⟩, r3⟩, r4⟩, r5⟩, r6⟩, r7⟩, r8⟩ := q12
      rw [hfs] at e2
      have q11 := List.all_eq_true.mp q11 fld (by rw [hfs]; exact List.mem_cons_self)
      refine ⟨ma K (ga K t.nm) "__init__", fld, e2, ?_⟩
      rw [e1, e3]
      exact ⟨glo_ok X G q1, PySem.XI.cls_of r7 q6, eqO_ok r1, eqO_ok q2, eqO_ok q3, eqO_ok q11, eqO_ok r2, of_decide_eq_true r3, q7, of_decide_eq_true q4, of_decide_eq_true r4, of_decide_eq_true q5, q6, eqO_ok r5, of_decide_eq_true r6, r7, eqO_ok c4, free_ok X G c2, c5, PySem.XI.fn_of r8⟩
    · rw [hfs] at q12; cases q12
  · obtain ⟨t, e, e1, e2, e3, e4, _, q⟩ := ec c hx
    rw [e4] at hi
    simp only [errB, hi, Bool.and_eq_true] at q
    obtain ⟨⟨⟨⟨⟨⟨⟨⟨⟨⟨⟨q1, q2⟩, q3⟩, q4⟩, q5⟩, q6⟩, q7⟩, q8⟩, q9⟩, q10⟩, q11⟩, q12⟩ := q
    rcases hfs : t.fs with _ | ⟨fld, r⟩
    · rw [hfs] at q12 e2
      rw [e1, e2, e3]
      exact ⟨rfl, q12, glo_ok X G q1, q7, of_decide_eq_true q4, of_decide_eq_true q5⟩
    · rw [hfs] at q12; cases q12
  · simp only [pgT] at hm ⊢
    cases e : tb.xs[c]? with
    | none => rw [e] at hm; cases hm
    | some t =>
      rw [e] at hm
      simp only at hm
      split at hm
      · next hl =>
        cases hm
        refine ⟨by simpa using (List.getElem?_eq_some_iff.mp e).1, hl, ?_⟩
        cases hi : t.ini with
        | true => exact .inl ⟨hi, by simp⟩
        | false => exact .inr ⟨hi, by simp⟩
      · cases hm
  · obtain ⟨t, e, e1, e2, e3, e4, _, q⟩ := ec c hx
    simp only [errB, Bool.and_eq_true] at q
    rw [e1, e3]
    exact glo_ok X G q.1.1.1.1.1.1.1.1.1.1.1
  · obtain ⟨t, e, e1, e2, e3, e4, _, q⟩ := ec c hx
    simp only [errB, Bool.and_eq_true] at q
    rw [e1]
    exact of_decide_eq_true q.1.1.2
  · obtain ⟨t, e, e1, e2, e3, e4, _, q⟩ := ec c hx
    simp only [errB, Bool.and_eq_true] at q
    obtain ⟨⟨⟨⟨⟨⟨⟨⟨⟨⟨⟨q1, q2⟩, q3⟩, q4⟩, q5⟩, q6⟩, q7⟩, q8⟩, q9⟩, q10⟩, q11⟩, q12⟩ := q
    rw [e1]
    exact ⟨eqO_ok q2, eqO_ok q3, of_decide_eq_true q4, q6, eqO_ok q8, eqO_ok c6, of_decide_eq_true c7, of_decide_eq_true q9⟩
  · obtain ⟨t, e, e1, e2, e3, e4, _, q⟩ := ec c hx
    simp only [errB, Bool.and_eq_true] at q
    obtain ⟨⟨⟨⟨⟨⟨⟨⟨⟨⟨⟨q1, q2⟩, q3⟩, q4⟩, q5⟩, q6⟩, q7⟩, q8⟩, q9⟩, q10⟩, q11⟩, q12⟩ := q
    rw [e1]
    exact ⟨eqO_ok q2, eqO_ok q3, of_decide_eq_true q4, q6⟩
  · obtain ⟨t, e, e1, e2, e3, e4, _, q⟩ := ec c hx
    simp only [errB, Bool.and_eq_true] at q
    rw [e1]
    rw [e2] at hf
    exact eqO_ok (List.all_eq_true.mp q.1.2 f hf)
def plainB (p : Arguments) (ps : List Str) : Bool := match p with
  | ⟨[], as, none, [], _, none, _⟩ => decide (as.map (·.arg) = ps) && decide (ps.Nodup)
  | _ => false
def scB (N ps : List Str) (sc : Scope) : Bool := decide (sc.kind = .function) && !sc.isCoroutine && !sc.isGenerator && decide N.Nodup && decide (N.take ps.length = ps) && (ps.all fun x => locB sc.names x) && (sc.names.all fun y => decide (y.2 ≠ .free))
theorem scB_ok {N ps : List Str} {sc : Scope} (h : scB N ps sc = true) : FnScope N ps sc := by
  simp only [scB, Bool.and_eq_true, decide_eq_true_eq, Bool.not_eq_true', List.all_eq_true] at h
  obtain ⟨⟨⟨⟨⟨⟨h1, h2⟩, h3⟩, h4⟩, h5⟩, h6⟩, h7⟩ := h
  exact ⟨h1, h2, h3, h4, h5, fun x hx => loc_of (h6 x hx), h7⟩
def defB (P : Pg) (t : DT) : Bool := match t.sup with
  | none => plainB t.d.params (t.N.take t.np) && scB t.N (t.N.take t.np) t.d.scope && decide (t.np ≤ t.N.length) && decide (t.d.dfl.length ≤ t.np) && okSs t.cln true P t.N t.ir t.d.scope.names t.d.body
  | some c0 => plainB t.d.params (t.N.take t.np) && NdefX.nscB t.N (t.N.take t.np) ["__class__"] t.d.scope && decide (t.np ≤ t.N.length) && (match (t.d.params.posonlyargs ++ t.d.params.args).head? with
    | some ar => decide ((t.N.take t.np)[(0 : Nat)]? = some ar.arg)
    | none => false) && decide (t.d.scope.names.lookup ("super" : Str) = some .globalImplicit) && !t.cln && okSAs P t.N c0 t.ir t.d.scope.names t.d.body
theorem tab_binds {K : PySem.W.Frag} {t : DT} {fd : FuncData} (F : FunD K t.d.name t.d.qual t.d.params t.d.body t.d.scope (t.d.dvs K) (t.d.kws K) (fAd K t.d.at_) fd) (h : plainB t.d.params (t.N.take t.np) = true) (hl : t.d.dfl.length ≤ t.np) (hn : t.np ≤ t.N.length) : Binds K fd (t.N.take t.np) [] := by
  unfold plainB at h
  split at h
  · next as kwd dfl hp =>
    simp only [Bool.and_eq_true, decide_eq_true_eq] at h
    obtain ⟨e, nd⟩ := h
    have len : as.length = t.np := by
      have := congrArg List.length e
      rw [List.length_map, List.length_take] at this
      omega
    rw [hp] at F
    by_cases hd : t.d.dvs K = []
    · rw [hd] at F
      have F' : FunD K t.d.name t.d.qual ⟨[], as, none, [], kwd, none, dfl⟩ t.d.body t.d.scope [] (t.d.kws K) (fAd K t.d.at_) fd := F
      refine FunD.bindsN F' fun kV doc pm an cdv ct us hu => ?_
      rw [← e] at hu ⊢
      exact bind_all (by simpa using hu) (by rw [e]; exact nd)
    · have hlen : (t.d.dvs K).length = t.d.dfl.length := by simp [DefD.dvs]
      obtain ⟨ds, hv, hb⟩ := FunD.binds1 (ps := t.N.take t.np) F t.np (t.d.dvs K).length hd (by rw [Nat.sub_self, Nat.add_zero, List.length_take]; omega) fun tT kV doc pm an cdv ct us its hu hi => by
        obtain ⟨k, k1, k2⟩ := bind_dfl (x := t.d.name) (qual := t.d.qual) (body := t.d.body) (scope := t.d.scope) (kV := kV) (doc := doc) (pm := pm) (cdv := cdv) (ct := ct) (an := an) (as := as) (kwd := kwd) (dfl := dfl) (us := us) (its := its) (tT := tT) (by omega) (by omega) (by rw [e]; exact nd)
        refine ⟨k, k1, ?_⟩
        rw [k2, e, ← hi, List.drop_length, List.append_nil]
      rw [List.drop_length] at hv
      cases hv
      exact hb
  · cases h
theorem tab_bindsS {prog : Program} {K : PySem.W.Frag} {C : Addr} {t : DT} {fd : FuncData} (F : FunS prog K C t.d.name t.d.qual t.d.params t.d.body t.d.scope (fAd K t.d.at_) fd) (h : plainB t.d.params (t.N.take t.np) = true) : Binds K fd (t.N.take t.np) [] := by
  unfold plainB at h
  split at h
  · next as kwd dfl hp =>
    simp only [Bool.and_eq_true, decide_eq_true_eq] at h
    obtain ⟨e, nd⟩ := h
    rw [hp] at F
    rw [← e]
    exact FunS.binds F (by rw [e]; exact nd)
  · cases h
/-- what stands of a def -/
def Dfn (tb : Tbl) (prog : Program) (K : PySem.W.Frag) (t : DT) : Prop := (t.sup = none → ∃ fd, FunD K t.d.name t.d.qual t.d.params t.d.body t.d.scope (t.d.dvs K) (t.d.kws K) (fAd K t.d.at_) fd) ∧ ∀ c0, t.sup = some c0 → ∃ fd, FunS prog K ((tbOf tb K).cad c0) t.d.name t.d.qual t.d.params t.d.body t.d.scope (fAd K t.d.at_) fd
/-- all the facts -/
structure Facts (tb : Tbl) (K : PySem.W.Frag) (prog : Program) (mg : Str → Option Value) : Prop where
  S : ∀ sem, SF (tbOf tb K) (pgT tb sem) mg ∧ ∀ x ∈ bnm, mg x = none
  SX : ∀ sem, XF (tbOf tb K) (pgT tb sem) prog mg ∧ XG (tbOf tb K) (pgT tb sem) mg
  SP : ∀ sem, SpF (tbOf tb K) (pgT tb sem) prog mg
/-- one def by its callees -/
theorem tab_okF {tb : Tbl} {K : PySem.W.Frag} {prog : Program} {w : World} {mg : Str → Option Value} {base : Heap} {f : Nat} {t : DT} {fd : FuncData}
    (fc : Facts tb K prog mg) (hs : t.sup = none) (F : FunD K t.d.name t.d.qual t.d.params t.d.body t.d.scope (t.d.dvs K) (t.d.kws K) (fAd K t.d.at_) fd)
    (B : ∀ sem, tb.ds.all (defB (pgT tb sem)) = true) (n : Nat) (e : tb.ds[f]? = some t) (ih : ∀ m f, f < tb.ds.length → m < n → FnA (tbOf tb K) (pgT tb (semT tb m)) prog w mg base (3 * m) f) :
    FnOk prog w K mg base (cxB t.cln prog w) (3 * n) (fAd K t.d.at_) fd (t.N.take t.np) (spF (tbOf tb K) (semT tb n f)) := by
  cases n with
  | zero =>
    have no : ∀ vs H Q E, ¬ spF (tbOf tb K) (semT tb 0 f) vs H Q E := fun vs H Q E ⟨ι, Hs, cs, ds, _, _, z⟩ => z
    exact ⟨fun vs H Q E z => absurd z (no _ _ _ _), fun A outer s H args us vs Q E _ _ _ _ z => absurd z (no _ _ _ _)⟩
  | succ n =>
    have hB := all_get (B (semT tb n)) e
    simp only [defB, hs, Bool.and_eq_true, decide_eq_true_eq] at hB
    obtain ⟨⟨⟨⟨b1, b2⟩, b3⟩, b4⟩, b5⟩ := hB
    have := def_ok (w := w) (T := tbOf tb K) (P := pgT tb (semT tb n)) (k := 3 * n) (mg := mg) (base := base) (prog := prog) t.cln (fc.S _).1 (fc.S (semT tb n)).2 (fc.SX _).1 (fc.SX _).2 (fun f hf => ih n f hf (Nat.lt_succ_self n)) F (scB_ok b2) b5
    have es : semT tb (n + 1) f = semN (pgT tb (semT tb n)) (t.N.take t.np).length t.N.length t.ir := by
      rw [List.length_take, Nat.min_eq_left b3]
      simp only [semT, e]
    rw [es]
    exact this
theorem tab_okS {tb : Tbl} {K : PySem.W.Frag} {prog : Program} {w : World} {mg : Str → Option Value} {base : Heap} {f c0 : Nat} {t : DT} {fd : FuncData}
    (fc : Facts tb K prog mg) (hs : t.sup = some c0) (F : FunS prog K ((tbOf tb K).cad c0) t.d.name t.d.qual t.d.params t.d.body t.d.scope (fAd K t.d.at_) fd)
    (B : ∀ sem, tb.ds.all (defB (pgT tb sem)) = true) (n : Nat) (e : tb.ds[f]? = some t) (ih : ∀ m f, f < tb.ds.length → m < n → FnA (tbOf tb K) (pgT tb (semT tb m)) prog w mg base (3 * m) f) :
    FnOk prog w K mg base (cxB t.cln prog w) (3 * n) (fAd K t.d.at_) fd (t.N.take t.np) (spF (tbOf tb K) (semT tb n f)) := by
  cases n with
  | zero =>
    have no : ∀ vs H Q E, ¬ spF (tbOf tb K) (semT tb 0 f) vs H Q E := fun vs H Q E ⟨ι, Hs, cs, ds, _, _, z⟩ => z
    exact ⟨fun vs H Q E z => absurd z (no _ _ _ _), fun A outer s H args us vs Q E _ _ _ _ z => absurd z (no _ _ _ _)⟩
  | succ n =>
    have hB := all_get (B (semT tb n)) e
    simp only [defB, hs, Bool.and_eq_true, decide_eq_true_eq, Bool.not_eq_true'] at hB
    obtain ⟨⟨⟨⟨⟨⟨b1, b2⟩, b3⟩, b4⟩, b5⟩, b6⟩, b7⟩ := hB
    rw [b6]
    cases har : (t.d.params.posonlyargs ++ t.d.params.args).head? with
    | none => rw [har] at b4; cases b4
    | some ar =>
      rw [har] at b4
      have := def_okS (w := w) (T := tbOf tb K) (P := pgT tb (semT tb n)) (k := 3 * n) (mg := mg) (base := base) (prog := prog) (fc.S _).1 (fc.S (semT tb n)).2 (fc.SX _).1 (fc.SX _).2 (fc.SP _) (fun f hf => ih n f hf (Nat.lt_succ_self n)) F (NdefX.nscope_by b2) har (of_decide_eq_true b4) b5 b7
      have es : semT tb (n + 1) f = semN (pgT tb (semT tb n)) (t.N.take t.np).length t.N.length t.ir := by
        rw [List.length_take, Nat.min_eq_left b3]
        simp only [semT, e]
      rw [es]
      exact this
theorem tab_ok {tb : Tbl} {K : PySem.W.Frag} {prog : Program} {w : World} {mg : Str → Option Value} {base : Heap}
    (fc : Facts tb K prog mg) (Df : ∀ (f : Nat) (t : DT), tb.ds[f]? = some t → Dfn tb prog K t)
    (B : ∀ sem, tb.ds.all (defB (pgT tb sem)) = true) (n f : Nat) (hf : f < tb.ds.length) : FnA (tbOf tb K) (pgT tb (semT tb n)) prog w mg base (3 * n) f := by
  induction n using Nat.strongRecOn generalizing f with
  | _ n ih =>
    have e := List.getElem?_eq_getElem hf
    have ea : (tbOf tb K).fad f = fAd K (tb.ds[f]).d.at_ := by simp [tbOf, e]
    have ec : (pgT tb (semT tb n)).cln f = (tb.ds[f]).cln := by simp [pgT, e]
    have hB := all_get (B fun _ _ _ => none) e
    cases hs : (tb.ds[f]).sup with
    | none =>
      obtain ⟨fd, F⟩ := (Df f _ e).1 hs
      simp only [defB, hs, Bool.and_eq_true, decide_eq_true_eq] at hB
      refine ⟨by rw [ea]; exact F.kp, fd, _, [], [], tab_binds F hB.1.1.1.1 hB.1.2 hB.1.1.2, .nil, fun _ _ => .nil, ?_⟩
      rw [ea, ec]
      exact tab_okF fc hs F B n e fun m f hf hm => ih m hm f hf
    | some c0 =>
      obtain ⟨fd, F⟩ := (Df f _ e).2 c0 hs
      simp only [defB, hs, Bool.and_eq_true, decide_eq_true_eq] at hB
      refine ⟨by rw [ea]; exact F.kp, fd, _, [], [], tab_bindsS F hB.1.1.1.1.1.1, .nil, fun _ _ => .nil, ?_⟩
      rw [ea, ec]
      exact tab_okS fc hs F B n e fun m f hf hm => ih m hm f hf
theorem sp_of {tb : Tbl} {K : PySem.W.Frag} {h : Heap} {mg : Str → Option Value} {Pm : Program} (X : K.In h) (G : h.Ns mainGlobals mg) (c : facX Pm tb K = true) (c2 : spsB tb K = true) (sem : Nat → Sem') : SpF (tbOf tb K) (pgT tb sem) Pm mg := by
  simp only [facX, Bool.and_eq_true, Bool.not_eq_true'] at c
  obtain ⟨⟨⟨⟨⟨⟨⟨⟨d1, d2⟩, d3⟩, d3'⟩, d4⟩, d5⟩, d6⟩, d7⟩, d8⟩ := c
  refine ⟨fun c0 c m f hp => ?_, eqO_ok d4, free_ok X G d2, d5⟩
  simp only [pgT] at hp
  cases e : tb.cl[c]? with
  | none => rw [e] at hp; cases hp
  | some t =>
    rw [e] at hp
    have hp : t.sps.lookup (c0, m) = some f := hp
    have q := all_get c2 e
    have mem : ((c0, m), f) ∈ t.sps := by
      have : ∀ {l : List ((Nat × Str) × Nat)}, l.lookup (c0, m) = some f → ((c0, m), f) ∈ l := by
        intro l
        induction l with
        | nil => intro h; cases h
        | cons a r ih =>
          intro h
          obtain ⟨a1, a2⟩ := a
          rw [List.lookup_cons] at h
          split at h
          · next hq =>
            have hq : (c0, m) = a1 := by simpa using hq
            cases h
            rw [hq]
            exact List.mem_cons_self
          · exact List.mem_cons_of_mem _ (ih h)
      exact this hp
    have z := List.all_eq_true.mp q _ mem
    simp only [Bool.and_eq_true, decide_eq_true_eq, Bool.not_eq_true'] at z
    obtain ⟨⟨⟨⟨⟨⟨z1, z2⟩, z3⟩, z4⟩, z5⟩, z6⟩, z7⟩ := z
    have ec : (tbOf tb K).cad c = ga K t.nm := by simp [tbOf, e]
    rw [ec]
    exact ⟨z1, z2, z3, eqO_ok z4, z5, z6, z7⟩
theorem funS_of {Pm : Program} {tb : Tbl} {K : PySem.W.Frag} {t : DT} {c0 : Nat} (hs : t.sup = some c0) (e : fnS K t.d.at_ = valS t.d) (c : supB Pm tb K t = true) : ∃ fd, FunS Pm K ((tbOf tb K).cad c0) t.d.name t.d.qual t.d.params t.d.body t.d.scope (fAd K t.d.at_) fd := by
  unfold supB at c
  rw [hs] at c
  simp only [Bool.and_eq_true] at c
  obtain ⟨kp, c⟩ := c
  unfold fnS fnW at e
  cases ho : K.lookup (fAd K t.d.at_) with
  | none => rw [ho] at c; cases c
  | some o =>
    obtain ⟨oc, od, dt, osl⟩ := o
    rw [ho] at c e
    cases dt with
    | func fd =>
      simp only [Bool.and_eq_true] at c
      obtain ⟨⟨c1, c2⟩, c3⟩ := c
      obtain ⟨name, qual, params, body, sc, gl, clo, dV, kV, doc, pm, an, code, ct, blt⟩ := fd
      simp only [valS, Option.map_some, Option.some.injEq, Prod.mk.injEq] at e
      obtain ⟨rfl, rfl, rfl, rfl, rfl, rfl, e7, rfl⟩ := e
      simp only at c1 c2 c3
      split at c3
      · next cda n cc =>
        simp only [Bool.and_eq_true] at c3
        obtain ⟨h8, h7⟩ := c3
        have hn : n = "__class__" := by simpa using e7
        subst hn
        cases dV <;> first | cases c2 | skip
        unfold PySem.XI.cellB at h7
        split at h7
        · next cl cld C' csl hc =>
          have h7 : C' = (tbOf tb K).cad c0 := by simpa using h7
          subst h7
          unfold PySem.XI.codeB at h8
          split at h8
          · next ccl cdd vs ccs hcd =>
            split at h8
            · next file tf hv => exact ⟨_, ⟨oc, od, kV, doc, pm, an, cda, cc, ct, osl, ccl, cl, cdd, cld, ccs, csl, vs, file, tf, rfl, ho, c1, hc, hcd, hv, h8⟩, kp⟩
            · cases h8
          · cases h8
        · cases h7
      · cases c3
    | _ => cases c
end Lit
end
section
set_option maxHeartbeats 4000000
namespace Lit
open PySem PySem.Spec L2 PyProof.Rows He
theorem obT_eq (Pm : Program) (tb : Tbl) (s : PySem.W.SharedT) : obT Pm tb s = (hkT Pm tb).obs s.abs := by
  have e : HandSHeadRun.getT s = s.abs.heap.get? := funext (HandSHeadRun.getT_eq s)
  show obsL _ _ _ _ _ = obsL _ _ _ _ _
  rw [e]
theorem says_fun {Pm : Program} {tb : Tbl} {K : PySem.W.Frag} (c : SaysD [] (dsN tb) K) (c2 : (atS (dsS tb)).map (fnS K) = (dsS tb).map valS) (c3 : tb.ds.all (supB Pm tb K) = true) (f : Nat) (t : DT) (e : tb.ds[f]? = some t) : Dfn tb Pm K t := by
  have hm := List.mem_of_getElem? e
  refine ⟨fun hs => SaysD.defs c (List.mem_map.mpr ⟨t, List.mem_filter.mpr ⟨hm, by simp [hs]⟩, rfl⟩), fun c0 hs => funS_of hs ?_ (all_get c3 e)⟩
  have hd : t.d ∈ dsS tb := List.mem_map.mpr ⟨t, List.mem_filter.mpr ⟨hm, by simp [hs]⟩, rfl⟩
  unfold atS at c2
  rw [List.map_map] at c2
  have : ∀ {l : List DefD}, l.map (fnS K ∘ DefD.at_) = l.map valS → ∀ d ∈ l, fnS K d.at_ = valS d := by
    intro l
    induction l with
    | nil => intro _ d hd; cases hd
    | cons a r ih =>
      intro h d hd
      rw [List.map_cons, List.map_cons] at h
      obtain ⟨h1, h2⟩ := List.cons.inj h
      rcases List.mem_cons.mp hd with rfl | hd
      · exact h1
      · exact ih h2 d hd
  exact this c2 _ hd
theorem facts_of {tb : Tbl} {K : PySem.W.Frag} {h : Heap} {mg : Str → Option Value} {Pm : Program} (X : K.In h) (G : h.Ns mainGlobals mg) (c : exT Pm tb K = true) : Facts tb K Pm mg := by
  simp only [exT, Bool.and_eq_true] at c
  exact ⟨fun sem => sf_of X G c.1.1.1 sem, fun sem => xf_of X G c.1.1.2 sem, fun sem => sp_of X G c.1.1.2 c.1.2 sem⟩
theorem law_at {l : PySem.W.OpenLaw} {tb : Tbl} {w : World} {h : Heap} {K : PySem.W.Frag} {mg : Str → Option Value} {fa : Addr} (X : K.In h) (G : h.Ns mainGlobals mg) (c : SaysD [] (dsN tb) K) (c2 : (atS (dsS tb)).map (fnS K) = (dsS tb).map valS) (cx : exT l.prog tb K = true)
    (B : ∀ sem, tb.ds.all (defB (pgT tb sem)) = true) {li : Nat} {t : DT} (ht : tb.ds[li]? = some t) (hat : t.d.at_ = (("law" : Str), none)) (hmg : mg "law" = some (.ref fa)) {x : Str} (hx : t.N.take t.np = [x]) (hd : t.d.dfl = []) (hcl : t.cln = false) (hsu : t.sup = none) {n nmax : Nat}
    (pure : ∀ ns : List Int, ns.length ≤ nmax → (∀ z ∈ ns, Builtin.Int.intBits z ≤ 1048576) → ∃ cs, semT tb n li [.scr ns] [] = some (.ret (.bl true), cs)) :
    LamX.LawAtS l w K (L2.CX l.prog w) (3 * n) nmax x mg fa h := by
  have fc := facts_of X G cx
  have cs := cx
  simp only [exT, Bool.and_eq_true] at cs
  have Df := says_fun c c2 cs.2
  obtain ⟨fd, F⟩ := (Df li t ht).1 hsu
  have hli : li < tb.ds.length := (List.getElem?_eq_some_iff.mp ht).1
  have gl : mg "law" = some (.ref (ga K "law")) := by
    have := fc.S (fun _ _ _ => none)
    have q := this.1.gfn li (by simp [pgT, ht, hat])
    simpa [pgT, tbOf, ht, hat, fAd] using q
  have ea : fa = ga K "law" := by rw [hmg] at gl; cases gl; rfl
  have hB := all_get (B fun _ _ _ => none) ht
  simp only [defB, hsu, Bool.and_eq_true, decide_eq_true_eq] at hB
  have bb := tab_binds F hB.1.1.1.1 hB.1.2 hB.1.1.2
  have dv : t.d.dvs K = [] := by simp [DefD.dvs, hd]
  have bind : ∀ (s : Shared) (u : Value), BindsTo s fd ⟨[u], []⟩ [(x, u)] := by
    have F' := F
    rw [dv] at F'
    have pB := hB.1.1.1.1
    unfold plainB at pB
    split at pB
    · next as kwd dfl hp =>
      simp only [Bool.and_eq_true, decide_eq_true_eq] at pB
      rw [hp] at F'
      intro s u
      have := FunD.bindsA (ps := [x]) F' (fun kV doc pm an cdv ct us hu => by
        have e : as.map (·.arg) = [x] := pB.1.trans hx
        rw [← e] at hu ⊢
        exact bind_all (by simpa using hu) (by rw [pB.1]; exact pB.2)) s [u] rfl
      exact this
    · cases pB
  refine ⟨fd, [], spF (tbOf tb K) (semT tb n li), nofun, nofun, nofun, bind, fun H a ns hl hb _ hS => ?_, fun base hbase hns _ => ?_⟩
  · obtain ⟨cs, e⟩ := pure ns hl hb
    refine ⟨[], fun b => if b = a then H a else none, [], [.scr ns], ⟨fun b o q => ?_, List.prefix_refl _, fun _ _ q _ => q, fun b o q => .inl q, Same.refl _, List.nodup_nil, nofun, nofun, rfl, nofun, nokp⟩, .cons (.scr ?_) .nil, ?_⟩
    · by_cases hb : b = a
      · subst hb; simpa using q
      · simp [hb] at q
    · rcases hS with hS | hS
      · exact .inl (by simpa [Rd] using hS)
      · exact .inr hS
    · rw [e]
      intro ι' Hs' H' v S r
      cases r
      rfl
  · have this := tab_okF (w := w) (base := base) fc hsu F B n ht (fun m f hf _ => tab_ok fc Df B m f hf)
    rw [hx] at this
    rw [ea]
    have e2 : fAd K t.d.at_ = ga K "law" := by rw [hat]; rfl
    rw [e2, hcl] at this
    exact this
end Lit
end
section
namespace Lit
open PySem L2
def WpD {α : Type} (o : Out α) (Q : α → Stt → Prop) (E : Exc → Stt → Prop) : Prop := match o with
  | .ok a s => Q a s
  | .exc x s => E x s
  | .bad => False
structure Wp {α : Type} (o : Out α) (Q : α → Stt → Prop) (E : Exc → Stt → Prop) : Prop where
  h : WpD o Q E
/-- a def's run -/
def RsD (o : Option (Res × List Cell)) (Q : D → List Cell → Prop) (E : Exc → List Cell → Prop) : Prop := match o with
  | some (.ret d, cs) => Q d cs
  | some (.exc x, cs) => E x cs
  | none => False
structure Rs (o : Option (Res × List Cell)) (Q : D → List Cell → Prop) (E : Exc → List Cell → Prop) : Prop where
  h : RsD o Q E
abbrev X0 : Exc → Stt → Prop := fun _ _ => False
abbrev R0 : Exc → List Cell → Prop := fun _ _ => False
section
variable {α β : Type} {P : Pg} {st : Stt} {E : Exc → Stt → Prop}
theorem wp_ok {a : α} {Q : α → Stt → Prop} (q : Q a st) : Wp (.ok a st) Q E := ⟨q⟩
theorem Wp.bind {o : Out α} {k : α → Stt → Out β} {Q : β → Stt → Prop} (h : Wp o (fun a s => Wp (k a s) Q E) E) : Wp (o.bind k) Q E := by
  cases o with
  | ok a s => exact h.h
  | exc x s => exact ⟨h.h⟩
  | bad => exact h.h.elim
theorem Wp.mono {o : Out α} {Q Q' : α → Stt → Prop} {E E' : Exc → Stt → Prop} (h : Wp o Q E) (q : ∀ a s, Q a s → Q' a s) (e : ∀ x s, E x s → E' x s) : Wp o Q' E' := by
  cases o with
  | ok a s => exact ⟨q _ _ h.h⟩
  | exc x s => exact ⟨e _ _ h.h⟩
  | bad => exact ⟨h.h⟩
theorem Rs.mono {o : Option (Res × List Cell)} {Q Q' : D → List Cell → Prop} {E E' : Exc → List Cell → Prop} (h : Rs o Q E) (q : ∀ a s, Q a s → Q' a s) (e : ∀ x s, E x s → E' x s) : Rs o Q' E' := by
  rcases o with _ | ⟨_ | _, _⟩
  · exact ⟨h.h⟩
  · exact ⟨q _ _ h.h⟩
  · exact ⟨e _ _ h.h⟩
theorem wp_opt {o : Option α} {a : α} {Q : α → Stt → Prop} (h : o = some a) (q : Q a st) : Wp (ofOpt o st) Q E := by subst h; first | exact q | exact ⟨q⟩
variable {Q : Rv → Stt → Prop}
theorem wp_v {i : Nat} {d : D} (h : st.env[i]? = some (.sh d)) (q : Q (.sh d) st) : Wp (ev P (.v i) st) Q E := by
  simp only [ev, sVar, h]; first | exact q | exact ⟨q⟩
theorem wp_vm {i : Nat} {xs : List D} (h : st.env[i]? = some (.mu xs)) (q : Q (.rf i) st) : Wp (ev P (.v i) st) Q E := by
  simp only [ev, sVar, h]; first | exact q | exact ⟨q⟩
theorem wp_k {d : D} (q : Q (.sh d) st) : Wp (ev P (.k d) st) Q E := ⟨q⟩
theorem wp_no (q : Q (.sh .non) st) : Wp (ev P .no st) Q E := ⟨q⟩
theorem wp_g {x : Str} {d : D} (h : P.glb x = some d) (q : Q (.sh d) st) : Wp (ev P (.g x) st) Q E := by
  simp only [ev, h]; first | exact q | exact ⟨q⟩
def Two (g : D → D → Option Rv) (ra rb : Rv) (Q : Rv → Stt → Prop) (s : Stt) : Prop := ∃ d e z, view s (setl ra) = some d ∧ view s rb = some e ∧ g d e = some z ∧ Q z s
theorem two_wp {g : D → D → Option Rv} {fa fb : Stt → Out Rv} (h : Wp (fa st) (fun ra s1 => Wp (fb s1) (fun rb s2 => Two g ra rb Q s2) E) E) : Wp (two g fa fb st) Q E := by
  unfold two
  refine Wp.bind (h.mono (fun ra s1 h => Wp.bind (h.mono (fun rb s2 h => ?_) fun _ _ x => x)) fun _ _ x => x)
  obtain ⟨d, e, z, h1, h2, h3, h4⟩ := h
  simp only [h1, h2, h3]
  first | exact h4 | exact ⟨h4⟩
theorem wp_bin {o : Operator} {a b : Lit.E} (h : Wp (ev P a st) (fun ra s1 => Wp (ev P b s1) (fun rb s2 => Two (gBin o) ra rb Q s2) E) E) : Wp (ev P (.bin o a b) st) Q E := two_wp h
def Cm (o : CmpOp) (ra rb : Rv) (Q : Rv → Stt → Prop) (s2 : Stt) : Prop := ∃ d e t, view s2 (setl ra) = some d ∧ view s2 rb = some e ∧ gCmp o d e = some t ∧ Q (.sh (.bl t)) s2
theorem wp_cmp {o : CmpOp} {a b : Lit.E} (h : Wp (ev P a st) (fun ra s1 => Wp (ev P b s1) (fun rb s2 => Cm o ra rb Q s2) E) E) : Wp (ev P (.cmp o a b) st) Q E := by
  refine two_wp (h.mono (fun ra s1 h => h.mono (fun rb s2 h => ?_) fun _ _ x => x) fun _ _ x => x)
  obtain ⟨d, e, t, h1, h2, h3, h4⟩ := h
  exact ⟨d, e, _, h1, h2, by simp only [gCmpR, h3, Option.map_some], h4⟩
theorem wp_ix {a b : Lit.E} (h : Wp (ev P a st) (fun ra s1 => Wp (ev P b s1) (fun rb s2 => Two gIx ra rb Q s2) E) E) : Wp (ev P (.ix a b) st) Q E := two_wp h
theorem wp_chn {o p : CmpOp} {a b c : Lit.E} (h : Wp (ev P a st) (fun ra s1 => Wp (ev P b s1) (fun rb s2 => ∃ d e t, view s2 (setl ra) = some d ∧ view s2 (setl rb) = some e ∧ gCmp o d e = some t ∧
    (t = false → Q (.sh (.bl false)) s2) ∧ (t = true → Wp (ev P c s2) (fun rc s3 => ∃ e' f u, view s3 (setl rb) = some e' ∧ view s3 rc = some f ∧ gCmp p e' f = some u ∧ Q (.sh (.bl u)) s3) E)) E) E) : Wp (ev P (.chn o p a b c) st) Q E := by
  simp only [ev]
  refine Wp.bind (h.mono (fun ra s1 h => Wp.bind (h.mono (fun rb s2 h => ?_) fun _ _ x => x)) fun _ _ x => x)
  obtain ⟨d, e, t, h1, h2, h3, h4, h5⟩ := h
  simp only [h1, h2, h3]
  cases t with
  | false => first | exact h4 rfl | exact ⟨h4 rfl⟩
  | true =>
    refine Wp.bind ((h5 rfl).mono (fun rc s3 h => ?_) fun _ _ x => x)
    obtain ⟨e', f, u, h1, h2, h3, h4⟩ := h
    simp only [h1, h2, gCmpR, h3, Option.map_some]
    first | exact h4 | exact ⟨h4⟩
/-- a truth value -/
def Bt (r : Rv) (s : Stt) (yes no : Prop) : Prop := ∃ t, view s r = some (.bl t) ∧ (t = true → yes) ∧ (t = false → no)
theorem wp_and1 {e : Lit.E} (h : Wp (ev P e st) Q E) : Wp (evAnd P (.cons e .nil) st) Q E := by simp only [evAnd]; first | exact h | exact ⟨h⟩
theorem wp_andc {e e2 : Lit.E} {es : Es} (h : Wp (ev P e st) (fun r s => Bt r s (Wp (evAnd P (.cons e2 es) s) Q E) (Q (.sh (.bl false)) s)) E) : Wp (evAnd P (.cons e (.cons e2 es)) st) Q E := by
  simp only [evAnd]
  refine Wp.bind (h.mono (fun r s h => ?_) fun _ _ x => x)
  obtain ⟨t, h1, h2, h3⟩ := h
  simp only [h1]
  cases t with
  | false => first | exact h3 rfl | exact ⟨h3 rfl⟩
  | true => first | exact h2 rfl | exact ⟨h2 rfl⟩
theorem wp_and {es : Es} (h : Wp (evAnd P es st) Q E) : Wp (ev P (.and es) st) Q E := by simp only [ev]; first | exact h | exact ⟨h⟩
theorem wp_or1 {e : Lit.E} (h : Wp (ev P e st) Q E) : Wp (evOr P (.cons e .nil) st) Q E := by simp only [evOr]; first | exact h | exact ⟨h⟩
theorem wp_orc {e e2 : Lit.E} {es : Es} (h : Wp (ev P e st) (fun r s => Bt r s (Q (.sh (.bl true)) s) (Wp (evOr P (.cons e2 es) s) Q E)) E) : Wp (evOr P (.cons e (.cons e2 es)) st) Q E := by
  simp only [evOr]
  refine Wp.bind (h.mono (fun r s h => ?_) fun _ _ x => x)
  obtain ⟨t, h1, h2, h3⟩ := h
  simp only [h1]
  cases t with
  | false => first | exact h3 rfl | exact ⟨h3 rfl⟩
  | true => first | exact h2 rfl | exact ⟨h2 rfl⟩
theorem wp_or {es : Es} (h : Wp (evOr P es st) Q E) : Wp (ev P (.or es) st) Q E := by simp only [ev]; first | exact h | exact ⟨h⟩
def Not1 (r : Rv) (s : Stt) (Q : Rv → Stt → Prop) : Prop := ∃ d b, view s r = some d ∧ gTru d = some b ∧ Q (.sh (.bl (!b))) s
theorem wp_not {a : Lit.E} (h : Wp (ev P a st) (fun r s => Not1 r s Q) E) : Wp (ev P (.not a) st) Q E := by
  simp only [ev]
  refine Wp.bind (h.mono (fun r s h => ?_) fun _ _ x => x)
  obtain ⟨d, b, h1, h2, h3⟩ := h
  simp only [h1, gNot, h2, Option.map_some]
  first | exact h3 | exact ⟨h3⟩
def Int1 (r : Rv) (s : Stt) (Q : Int → Prop) : Prop := ∃ i, view s r = some (.int i) ∧ Q i
theorem wp_neg {a : Lit.E} (h : Wp (ev P a st) (fun r s => Int1 r s fun i => Q (.sh (.int (-i))) s) E) : Wp (ev P (.neg a) st) Q E := by
  simp only [ev]
  refine Wp.bind (h.mono (fun r s h => ?_) fun _ _ x => x)
  obtain ⟨i, h1, h3⟩ := h
  simp only [h1]
  first | exact h3 | exact ⟨h3⟩
/-- a test -/
def Tr (r : Rv) (s : Stt) (yes no : Prop) : Prop := ∃ d b, view s r = some d ∧ gTru d = some b ∧ (b = true → yes) ∧ (b = false → no)
theorem wp_ife {c a b : Lit.E} (h : Wp (ev P c st) (fun r s => Tr r s (Wp (ev P a s) Q E) (Wp (ev P b s) Q E)) E) : Wp (ev P (.ife c a b) st) Q E := by
  simp only [ev]
  refine Wp.bind (h.mono (fun r s h => ?_) fun _ _ x => x)
  obtain ⟨d, b, h1, h2, h3, h4⟩ := h
  simp only [truO, h1, h2, ofOpt, Out.bind_ok]
  cases b with
  | true => first | exact h3 rfl | exact ⟨h3 rfl⟩
  | false => first | exact h4 rfl | exact ⟨h4 rfl⟩
theorem wp_evc0 {Q : List D → Stt → Prop} (q : Q [] st) : Wp (evc P .nil st) Q E := by simp only [evc]; first | exact q | exact ⟨q⟩
/-- captured -/
def Cap (r : Rv) (s : Stt) (Q : D → Stt → Prop) : Prop := ∃ d s', capR r s = some (d, s') ∧ Q d s'
theorem Cap.wp {r : Rv} {Q : D → Stt → Prop} (h : Cap r st Q) : Wp (capO r st) Q E := by
  obtain ⟨d, s', h1, h2⟩ := h
  simp only [capO, h1]
  first | exact h2 | exact ⟨h2⟩
theorem cap_sh {d : D} {Q : D → Stt → Prop} (q : Q d st) : Cap (.sh d) st Q := ⟨d, st, rfl, q⟩
theorem cap_fr {xs : List D} {Q : D → Stt → Prop} (q : Q (.lst xs) st) : Cap (.fr xs) st Q := ⟨_, st, rfl, q⟩
theorem cap_rf {i : Nat} {xs : List D} {Q : D → Stt → Prop} (h : st.env[i]? = some (.mu xs)) (q : Q (.lst xs) { st with env := st.env.set i (.sh (.lst xs)) }) : Cap (.rf i) st Q := ⟨_, _, by simp only [capR, h], q⟩
theorem wp_evc {e : Lit.E} {es : Es} {Q : List D → Stt → Prop} (h : Wp (ev P e st) (fun r s => Cap r s fun d s1 => Wp (evc P es s1) (fun ds s2 => Q (d :: ds) s2) E) E) : Wp (evc P (.cons e es) st) Q E := by
  simp only [evc]
  refine Wp.bind (h.mono (fun r s h => Wp.bind (Cap.wp ?_)) fun _ _ x => x)
  obtain ⟨d, s', h1, h2⟩ := h
  exact ⟨d, s', h1, Wp.bind (h2.mono (fun _ _ h => ⟨h⟩) fun _ _ x => x)⟩
theorem wp_evs0 {Q : List Rv → Stt → Prop} (q : Q [] st) : Wp (evs P .nil st) Q E := by simp only [evs]; first | exact q | exact ⟨q⟩
theorem wp_evs {e : Lit.E} {es : Es} {Q : List Rv → Stt → Prop} (h : Wp (ev P e st) (fun r s => Wp (evs P es s) (fun rs s2 => Q (setl r :: rs) s2) E) E) : Wp (evs P (.cons e es) st) Q E := by
  simp only [evs]
  exact Wp.bind (h.mono (fun r s h => Wp.bind (h.mono (fun _ _ h => ⟨h⟩) fun _ _ x => x)) fun _ _ x => x)
theorem wp_lst {es : Es} (h : Wp (evc P es st) (fun ds s => ds.length ≤ 16777216 ∧ Q (.fr ds) s) E) : Wp (ev P (.lst es) st) Q E := by
  simp only [ev]
  refine Wp.bind (h.mono (fun r s h => ?_) fun _ _ x => x)
  rw [if_pos h.1]; first | exact h.2 | exact ⟨h.2⟩
theorem wp_tup {es : Es} (h : Wp (evc P es st) (fun ds s => ds.length ≤ 16777216 ∧ Q (.sh (.tup ds)) s) E) : Wp (ev P (.tup es) st) Q E := by
  simp only [ev]
  refine Wp.bind (h.mono (fun r s h => ?_) fun _ _ x => x)
  rw [if_pos h.1]; first | exact h.2 | exact ⟨h.2⟩
theorem wp_cell {es : Es} (h : Wp (evc P es st) (fun ds s => ds.length ≤ 16777216 ∧ Q (.sh (.own s.cs.length)) { s with cs := s.cs ++ [.lst ds] }) E) : Wp (ev P (.cell es) st) Q E := by
  simp only [ev]
  refine Wp.bind (h.mono (fun r s h => ?_) fun _ _ x => x)
  rw [if_pos h.1]; first | exact h.2 | exact ⟨h.2⟩
def Sl1 (ra : Rv) (l h : Option Int) (Q : Rv → Stt → Prop) (s3 : Stt) : Prop := ∃ d z, view s3 (setl ra) = some d ∧ gSl d l h = some z ∧ Q z s3
theorem wp_sl0 {a : Lit.E} {lo hi : Lit.E} (h : Wp (ev P a st) (fun ra s1 => Wp (partF lo (ev P lo) s1) (fun l s2 => Wp (partF hi (ev P hi) s2) (fun h s3 => Sl1 ra l h Q s3) E) E) E) : Wp (ev P (.sl a lo hi) st) Q E := by
  simp only [ev]
  refine Wp.bind (h.mono (fun ra s1 h => Wp.bind (h.mono (fun l s2 h => Wp.bind (h.mono (fun hh s3 h => ?_) fun _ _ x => x)) fun _ _ x => x)) fun _ _ x => x)
  obtain ⟨d, z, h1, h2, h3⟩ := h
  simp only [h1, h2]
  first | exact h3 | exact ⟨h3⟩
theorem wp_part0 {Q : Option Int → Stt → Prop} {f : Stt → Out Rv} (q : Q none st) : Wp (partF .no f st) Q E := ⟨q⟩
theorem wp_part {Q : Option Int → Stt → Prop} {e : Lit.E} {f : Stt → Out Rv} (he : isNo e = false) (h : Wp (f st) (fun r s => Int1 r s fun i => Q (some i) s) E) : Wp (partF e f st) Q E := by
  have e1 : partF e f = fun st => (f st).bind partO := by cases e <;> first | rfl | cases he
  rw [e1]
  refine Wp.bind (h.mono (fun r s h => ?_) fun _ _ x => x)
  obtain ⟨i, h1, h2⟩ := h
  simp only [partO, h1]
  first | exact h2 | exact ⟨h2⟩
theorem callF_wp {f : Nat} {ds : List D} (h : Rs (P.sem f (ds ++ P.dfs f) st.cs) (fun d cs => Q (.sh d) { st with cs := cs }) (fun x cs => E x { st with cs := cs })) : Wp (callF P f ds st) Q E := by
  unfold callF
  rcases e : P.sem f (ds ++ P.dfs f) st.cs with _ | ⟨_ | _, _⟩ <;> rw [e] at h
  · exact h.h.elim
  · exact ⟨h.h⟩
  · exact ⟨h.h⟩
theorem wp_call {f : Nat} {es : Es} (h : Wp (evc P es st) (fun ds s => Rs (P.sem f (ds ++ P.dfs f) s.cs) (fun d cs => Q (.sh d) { s with cs := cs }) (fun x cs => E x { s with cs := cs })) E) : Wp (ev P (.call f es) st) Q E := by
  simp only [ev]
  exact Wp.bind (h.mono (fun _ _ h => callF_wp h) fun _ _ x => x)
def Bi1 (b : Bi) (r : Rv) (Q : Rv → Stt → Prop) (s : Stt) : Prop := ∃ d z, view s r = some d ∧ gBi b [d] = some z ∧ Q z s
theorem wp_bi {b : Bi} {a : Lit.E} (h : Wp (ev P a st) (fun r s => Bi1 b r Q s) E) : Wp (ev P (.bi b a) st) Q E := by
  simp only [ev]
  refine Wp.bind (h.mono (fun r s h => ?_) fun _ _ x => x)
  obtain ⟨d, z, h1, h2, h3⟩ := h
  simp only [h1, h2]
  first | exact h3 | exact ⟨h3⟩
theorem wp_lrng {a : Lit.E} (h : Wp (ev P a st) (fun r s => Int1 r s fun n => 0 ≤ n ∧ n ≤ 1000 ∧ Q (.fr (rngD 0 n)) s) E) : Wp (ev P (.lrng a) st) Q E := by
  simp only [ev]
  refine Wp.bind (h.mono (fun r s h => ?_) fun _ _ x => x)
  obtain ⟨n, h1, h2, h3, h4⟩ := h
  simp only [h1]
  rw [if_pos ⟨h2, h3⟩]; first | exact h4 | exact ⟨h4⟩
def Me1 (m : Me) (r : Rv) (rs : List Rv) (Q : Rv → Stt → Prop) (s2 : Stt) : Prop := ∃ d ds z, view s2 (setl r) = some d ∧ views s2 rs = some ds ∧ gMe m d ds = some z ∧ Q z s2
theorem wp_me {m : Me} {o : Lit.E} {es : Es} (h : Wp (ev P o st) (fun r s1 => ((view s1 (setl r)).any (tyM m)) = true ∧ Wp (evs P es s1) (fun rs s2 => Me1 m r rs Q s2) E) E) : Wp (ev P (.me m o es) st) Q E := by
  simp only [ev]
  refine Wp.bind (h.mono (fun r s h => ?_) fun _ _ x => x)
  rw [if_pos h.1]
  refine Wp.bind (h.2.mono (fun rs s2 h => ?_) fun _ _ x => x)
  obtain ⟨d, ds, z, h1, h2, h3, h4⟩ := h
  simp only [h1, h2, h3]
  first | exact h4 | exact ⟨h4⟩
def Mu1 (m : Me) (r : Rv) (ds : List D) (Q : Rv → Stt → Prop) (s2 : Stt) : Prop := ∃ l xs d ys, locR (setl r) s2 = some (l, xs) ∧ gMu m xs ds = some (d, ys) ∧ Q (.sh d) (setLoc l ys s2)
theorem wp_mu {m : Me} {o : Lit.E} {es : Es} (h : Wp (ev P o st) (fun r s1 => ((view s1 (setl r)).any (tyM m)) = true ∧ Wp (evc P es s1) (fun ds s2 => Mu1 m r ds Q s2) E) E) : Wp (ev P (.mu m o es) st) Q E := by
  simp only [ev]
  refine Wp.bind (h.mono (fun r s h => ?_) fun _ _ x => x)
  rw [if_pos h.1]
  refine Wp.bind (h.2.mono (fun rs s2 h => ?_) fun _ _ x => x)
  obtain ⟨l, xs, d, ys, h1, h2, h3⟩ := h
  simp only [h1, h2]
  first | exact h3 | exact ⟨h3⟩
def Fld (P : Pg) (f : Str) (r : Rv) (Q : Rv → Stt → Prop) (s : Stt) : Prop := ∃ c ds j d, view s r = some (.ins c ds) ∧ (P.fld c).idxOf? f = some j ∧ ds[j]? = some d ∧ Q (.sh d) s
theorem wp_fld {o : Lit.E} {f : Str} (h : Wp (ev P o st) (fun r s => Fld P f r Q s) E) : Wp (ev P (.fld o f) st) Q E := by
  simp only [ev]
  refine Wp.bind (h.mono (fun r s h => ?_) fun _ _ x => x)
  obtain ⟨c, ds, j, d, h1, h2, h3, h4⟩ := h
  simp only [h1, h2, h3, Option.map_some]
  first | exact h4 | exact ⟨h4⟩
theorem wp_con {o : Lit.E} {f : Str} (h : Wp (ev P o st) (fun r s => ∃ c ds d, view s r = some (.ins c ds) ∧ P.con c f = some d ∧ (P.fld c).contains f = false ∧ Q (.sh d) s) E) : Wp (ev P (.con o f) st) Q E := by
  simp only [ev]
  refine Wp.bind (h.mono (fun r s h => ?_) fun _ _ x => x)
  obtain ⟨c, ds, d, h1, h2, h3, h4⟩ := h
  simp only [h1, h2]
  rw [if_pos h3]
  first | exact h4 | exact ⟨h4⟩
theorem wp_inv {o : Lit.E} {m : Str} {es : Es} (h : Wp (ev P o st) (fun r s => Cap r s fun d s1 => ∃ c f, clsOf m s1 d = some c ∧ P.mth c m = some f ∧ Wp (evc P es s1) (fun ds s2 => Rs (P.sem f ((d :: ds) ++ P.dfs f) s2.cs) (fun d cs => Q (.sh d) { s2 with cs := cs }) (fun x cs => E x { s2 with cs := cs })) E) E) : Wp (ev P (.inv o m es) st) Q E := by
  simp only [ev]
  refine Wp.bind (h.mono (fun r s h => Wp.bind (Cap.wp ?_)) fun _ _ x => x)
  obtain ⟨d, s', h1, c, f, h2, h3, h4⟩ := h
  refine ⟨d, s', h1, ?_⟩
  simp only [h2, h3]
  exact Wp.bind (h4.mono (fun _ _ h => callF_wp h) fun _ _ x => x)
theorem wp_sup0 {c0 : Nat} {m : Str} {d : D} {c f : Nat} (h0 : st.env[(0 : Nat)]? = some (.sh d)) (h1 : clsOf m st d = some c) (h2 : P.spr c0 c m = some f) (h : Rs (P.sem f ([d] ++ P.dfs f) st.cs) (fun d cs => Q (.sh d) { st with cs := cs }) (fun x cs => E x { st with cs := cs })) : Wp (ev P (.sup c0 m .nil) st) Q E := by
  simp only [ev, h0, h1, h2, evc, Out.bind_ok]
  exact callF_wp h
theorem wp_sto {f : Nat} {a : Lit.E} (h : Wp (ev P a st) (fun r s => Cap r s fun d s1 => ∃ c ds, d = .ins c ds ∧ P.mth c "__str__" = some f ∧ Rs (P.sem f ([d] ++ P.dfs f) s1.cs) (fun d cs => ∃ x, d = .str x ∧ Q (.sh (.str x)) { s1 with cs := cs }) (fun x cs => E x { s1 with cs := cs })) E) : Wp (ev P (.sto f a) st) Q E := by
  simp only [ev]
  refine Wp.bind (h.mono (fun r s h => Wp.bind (Cap.wp ?_)) fun _ _ x => x)
  obtain ⟨d, s', h1, c, ds, rfl, h2, h3⟩ := h
  refine ⟨_, s', h1, ?_⟩
  simp only [h2, if_true]
  refine Wp.bind (callF_wp (h3.mono (fun d cs h => ?_) fun _ _ x => x))
  obtain ⟨x, rfl, h⟩ := h
  first | exact h | exact ⟨h⟩
def Isi (P : Pg) (t : Ty) (r : Rv) (Q : Rv → Stt → Prop) (s : Stt) : Prop := ∃ d b, view s r = some d ∧ gIsi P d t = some b ∧ Q (.sh (.bl b)) s
theorem wp_isi {a : Lit.E} {t : Ty} (h : Wp (ev P a st) (fun r s => Isi P t r Q s) E) : Wp (ev P (.isi a t) st) Q E := by
  simp only [ev]
  refine Wp.bind (h.mono (fun r s h => ?_) fun _ _ x => x)
  obtain ⟨d, b, h1, h2, h3⟩ := h
  simp only [h1, h2, Option.map_some]
  first | exact h3 | exact ⟨h3⟩
/-- an instance made by a def that stores its fields and keeps the rest -/
theorem wp_mk {c f : Nat} {es : Es} (hm : P.mki c = some f) (h : Wp (evc P es st) (fun ds s => Rs (P.sem f (.own s.cs.length :: (ds ++ P.dfs f)) (s.cs ++ [.ins c []])) (fun r cs => r = .non ∧ ∃ d cs', sealC P s.cs.length c cs = some (d, cs') ∧ Q (.sh d) { s with cs := cs' })
      (fun x cs => s.cs.length ≤ cs.length ∧ (lows s.cs.length x.fs && (cs.take s.cs.length).all (lowC s.cs.length)) = true ∧ E x { s with cs := cs.take s.cs.length })) E) : Wp (ev P (.mk c es) st) Q E := by
  simp only [ev]
  refine Wp.bind (h.mono (fun ds s h => ?_) fun _ _ x => x)
  unfold makeF
  cases e : P.sem f (.own s.cs.length :: (ds ++ P.dfs f)) (s.cs ++ [.ins c []]) with
  | none => rw [e] at h; exact h.h.elim
  | some q =>
    obtain ⟨res, cs⟩ := q
    rw [e] at h
    cases res with
    | ret r =>
      have h := h.h
      obtain ⟨rfl, d, cs', h1, h2⟩ := h
      simp only [hm, e, h1]
      first | exact h2 | exact ⟨h2⟩
    | exc x =>
      obtain ⟨h1, h2, h3⟩ := h.h
      simp only [hm, e]
      rw [if_pos ⟨h1, h2⟩]
      first | exact h3 | exact ⟨h3⟩
/-- a comprehension -/
theorem wp_lcF {i : Nat} {cond : Stt → Out Bool} {el : Stt → Out Rv} {Q : List D → Stt → Prop} (I : List D → List D → Stt → Prop)
    (step : ∀ x xs acc st, I (x :: xs) acc st → Wp (cond (st.put i (.sh x))) (fun b s1 => (b = false → I xs acc s1) ∧ (b = true → Wp (el s1) (fun r s2 => Cap r s2 fun d s3 => acc.length < 16777216 ∧ I xs (acc ++ [d]) s3) X0)) X0)
    (fin : ∀ acc st, I [] acc st → Q acc st) : ∀ xs acc st, I xs acc st → Wp (lcF i cond el xs acc st) Q X0
  | [], acc, st, h => ⟨fin acc st h⟩
  | x :: xs, acc, st, h => by
    simp only [lcF]
    refine Wp.bind ((step x xs acc st h).mono (fun b s1 h => ?_) fun _ _ x => x)
    cases b with
    | false => exact wp_lcF I step fin xs acc s1 (h.1 rfl)
    | true =>
      refine Wp.bind ((h.2 rfl).mono (fun r s2 h => Wp.bind (Cap.wp ?_)) fun _ _ x => x)
      obtain ⟨d, s3, h1, h2, h3⟩ := h
      refine ⟨d, s3, h1, ?_⟩
      dsimp only
      rw [if_pos h2]
      exact wp_lcF I step fin xs (acc ++ [d]) s3 h3
theorem wp_noX {o : Out α} {Q : α → Stt → Prop} (h : Wp o Q X0) : Wp (noX o) Q E := by
  cases o with
  | ok a s => exact ⟨h.h⟩
  | exc x s => exact h.h.elim
  | bad => exact h.h.elim
def Lc1 (P : Pg) (i : Nat) (k : ItK) (da db : D) (cond : Es) (el : Lit.E) (Q : Rv → Stt → Prop) (s4 : Stt) : Prop := ∃ xs o sl, iterS k da db s4 = some (xs, o) ∧ s4.env[i]? = some sl ∧ isMu sl = false ∧
      Wp (lcF i (chk o xs (evConds P cond)) (chk o xs (ev P el)) xs [] s4) (fun ys s5 => Q (.fr ys) { s5 with env := s5.env.set i sl }) X0
theorem wp_lc {i : Nat} {k : ItK} {a b : Lit.E} {cond : Es} {el : Lit.E} (h : Wp (ev P a st) (fun ra s1 => Cap ra s1 fun da s2 => Wp (ev P b s2) (fun rb s3 => Cap rb s3 fun db s4 => Lc1 P i k da db cond el Q s4) E) E) : Wp (ev P (.lc i k a b cond el) st) Q E := by
  simp only [ev]
  refine Wp.bind (h.mono (fun ra s1 h => Wp.bind (Cap.wp ?_)) fun _ _ x => x)
  obtain ⟨da, s2, h1, h2⟩ := h
  refine ⟨da, s2, h1, Wp.bind (h2.mono (fun rb s3 h => Wp.bind (Cap.wp ?_)) fun _ _ x => x)⟩
  obtain ⟨db, s4, h1, xs, o, sl, h2, h3, h4, h5⟩ := h
  refine ⟨db, s4, h1, ?_⟩
  simp only [lcK, h2, h3, h4]
  exact Wp.bind (wp_noX (E := E) (h5.mono (fun ys s5 h => ⟨h⟩) fun _ _ x => x))
theorem wp_conds0 {Q : Bool → Stt → Prop} (q : Q true st) : Wp (evConds P .nil st) Q E := by simp only [evConds]; first | exact q | exact ⟨q⟩
def Tru (r : Rv) (s : Stt) (Q : Bool → Prop) : Prop := ∃ d b, view s r = some d ∧ gTru d = some b ∧ Q b
theorem wp_conds {e : Lit.E} {Q : Bool → Stt → Prop} (h : Wp (ev P e st) (fun r s => Tru r s fun b => Q b s) E) : Wp (evConds P (.cons e .nil) st) Q E := by
  simp only [evConds]
  refine Wp.bind (h.mono (fun r s h => ?_) fun _ _ x => x)
  obtain ⟨d, b, h1, h2, h3⟩ := h
  simp only [truO, h1, h2, ofOpt]
  first | exact h3 | exact ⟨h3⟩
end
section
variable {P : Pg} {st : Stt} {E : Exc → Stt → Prop} {Q : Flow' → Stt → Prop}
def Asg (i : Nat) (r : Rv) (s : Stt) (Q : Stt → Prop) : Prop := ∃ sl s1, slOf r s = some (sl, s1) ∧ i < s1.env.length ∧ Q (s1.put i sl)
theorem wp_asg {i : Nat} {e : Lit.E} (h : Wp (ev P e st) (fun r s => Asg i r s fun s1 => Q .nx s1) E) : Wp (ex P (.asg i e) st) Q E := by
  simp only [ex]
  refine Wp.bind (h.mono (fun r s h => ?_) fun _ _ x => x)
  obtain ⟨sl, s1, h1, h2, h3⟩ := h
  simp only [h1]
  rw [if_pos h2]; first | exact h3 | exact ⟨h3⟩
def AsgT (is : List Nat) (r : Rv) (s : Stt) (Q : Stt → Prop) : Prop := ∃ ds s1, view s r = some (.tup ds) ∧ putAll is ds s = some s1 ∧ Q s1
theorem wp_asgT {is : List Nat} {e : Lit.E} (h : Wp (ev P e st) (fun r s => AsgT is r s fun s1 => Q .nx s1) E) : Wp (ex P (.asgT is e) st) Q E := by
  simp only [ex]
  refine Wp.bind (h.mono (fun r s h => ?_) fun _ _ x => x)
  obtain ⟨ds, s1, h1, h2, h3⟩ := h
  simp only [h1, h2]
  first | exact h3 | exact ⟨h3⟩
def SetIx (ro ri : Rv) (d : D) (Q : Stt → Prop) (s3 : Stt) : Prop := ∃ l xs j n, locR (setl ro) s3 = some (l, xs) ∧ view s3 ri = some (.int j) ∧ ixN xs.length j = some n ∧ Q (setLoc l (xs.set n d) s3)
theorem wp_setix {o i e : Lit.E} (h : Wp (ev P e st) (fun r s => Cap r s fun d s1 => Wp (ev P o s1) (fun ro s2 => Wp (ev P i s2) (fun ri s3 => SetIx ro ri d (fun s => Q .nx s) s3) E) E) E) : Wp (ex P (.setix o i e) st) Q E := by
  simp only [ex]
  refine Wp.bind (h.mono (fun r s h => Wp.bind (Cap.wp ?_)) fun _ _ x => x)
  obtain ⟨d, s1, h1, h2⟩ := h
  refine ⟨d, s1, h1, Wp.bind (h2.mono (fun ro s2 h => Wp.bind (h.mono (fun ri s3 h => ?_) fun _ _ x => x)) fun _ _ x => x)⟩
  obtain ⟨l, xs, j, n, h1, h2, h3, h4⟩ := h
  simp only [h1, h2, h3]
  first | exact h4 | exact ⟨h4⟩
theorem wp_augAdd {i : Nat} {a : Int} {e : Lit.E} (h0 : st.env[i]? = some (.sh (.int a))) (h : Wp (ev P e st) (fun r s => Int1 r s fun b => Q .nx (s.put i (.sh (.int (a + b))))) E) : Wp (ex P (.aug i .Add e) st) Q E := by
  simp only [ex, h0]
  refine Wp.bind (h.mono (fun r s h => ?_) fun _ _ x => x)
  obtain ⟨b, h1, h2⟩ := h
  simp only [h1]
  first | exact h2 | exact ⟨h2⟩
def SetF (P : Pg) (f : Str) (ro : Rv) (d : D) (Q : Stt → Prop) (s2 : Stt) : Prop := ∃ n c fs, view s2 ro = some (.own n) ∧ s2.cs[n]? = some (.ins c fs) ∧ fs.length < 100 ∧ (P.fld c).contains f = true ∧ Q { s2 with cs := s2.cs.set n (.ins c (putD f d fs)) }
theorem wp_setf {o e : Lit.E} {f : Str} (h : Wp (ev P e st) (fun r s => Cap r s fun d s1 => Wp (ev P o s1) (fun ro s2 => SetF P f ro d (fun s => Q .nx s) s2) E) E) : Wp (ex P (.setf o f e) st) Q E := by
  simp only [ex]
  refine Wp.bind (h.mono (fun r s h => Wp.bind (Cap.wp ?_)) fun _ _ x => x)
  obtain ⟨d, s1, h1, h2⟩ := h
  refine ⟨d, s1, h1, Wp.bind (h2.mono (fun ro s2 h => ?_) fun _ _ x => x)⟩
  obtain ⟨n, c, fs, h1, h2, h3, h4, h5⟩ := h
  simp only [h1, h2]
  rw [if_pos ⟨h3, h4⟩]; first | exact h5 | exact ⟨h5⟩
theorem wp_ex {e : Lit.E} (h : Wp (ev P e st) (fun _ s => Q .nx s) E) : Wp (ex P (.ex e) st) Q E := by
  simp only [ex]
  exact Wp.bind (h.mono (fun r s h => ⟨h⟩) fun _ _ x => x)
theorem wp_ite {c : Lit.E} {a b : Sts} (h : Wp (ev P c st) (fun r s => Tr r s (Wp (exs P a s) Q E) (Wp (exs P b s) Q E)) E) : Wp (ex P (.ite c a b) st) Q E := by
  simp only [ex]
  refine Wp.bind (h.mono (fun r s h => ?_) fun _ _ x => x)
  obtain ⟨d, b, h1, h2, h3, h4⟩ := h
  simp only [truO, h1, h2, ofOpt, Out.bind_ok]
  cases b with
  | true => first | exact h3 rfl | exact ⟨h3 rfl⟩
  | false => first | exact h4 rfl | exact ⟨h4 rfl⟩
theorem wp_ret {e : Lit.E} (h : Wp (ev P e st) (fun r s => Cap r s fun d s1 => Q (.rt d) s1) E) : Wp (ex P (.ret e) st) Q E := by
  simp only [ex]
  refine Wp.bind (h.mono (fun r s h => Wp.bind (Cap.wp ?_)) fun _ _ x => x)
  obtain ⟨d, s', h1, h2⟩ := h
  exact ⟨d, s', h1, ⟨h2⟩⟩
theorem wp_ret0 (q : Q (.rt .non) st) : Wp (ex P .ret0 st) Q E := by simp only [ex]; first | exact q | exact ⟨q⟩
theorem wp_pass (q : Q .nx st) : Wp (ex P .pass st) Q E := by simp only [ex]; first | exact q | exact ⟨q⟩
theorem wp_brk (q : Q .bk st) : Wp (ex P .brk st) Q E := by simp only [ex]; first | exact q | exact ⟨q⟩
theorem wp_cont (q : Q .ct st) : Wp (ex P .cont st) Q E := by simp only [ex]; first | exact q | exact ⟨q⟩
theorem wp_raise {c : Nat} {es : Es} (h : Wp (evc P es st) (fun ds s => ∃ fs, P.mkx c ds = some fs ∧ E ⟨c, fs⟩ s) E) : Wp (ex P (.raise c es) st) Q E := by
  simp only [ex]
  refine Wp.bind (h.mono (fun r s h => ?_) fun _ _ x => x)
  obtain ⟨fs, h1, h2⟩ := h
  simp only [h1]
  first | exact h2 | exact ⟨h2⟩
theorem wp_tryR {body : Sts} {hh c : Nat} {es : Es} (h : Wp (exs P body st) Q (fun x s => P.isx x.c = true ∧ (P.xsub x.c hh = false → E x s) ∧ (P.xsub x.c hh = true → Wp (evc P es s) (fun ds s1 => ∃ fs, P.mkx c ds = some fs ∧ E ⟨c, fs⟩ s1) E))) : Wp (ex P (.tryR body hh c es) st) Q E := by
  simp only [ex]
  cases e : exs P body st with
  | ok a s => rw [e] at h; exact ⟨h.h⟩
  | bad => rw [e] at h; exact h.h.elim
  | exc x s =>
    rw [e] at h
    obtain ⟨h1, h2, h3⟩ := h.h
    simp only
    rw [if_pos h1]
    cases hx : P.xsub x.c hh with
    | false => rw [if_neg (by decide)]; exact ⟨h2 hx⟩
    | true =>
      rw [if_pos rfl]
      refine Wp.bind ((h3 hx).mono (fun r s h => ?_) fun _ _ x => x)
      obtain ⟨fs, h1, h2⟩ := h
      simp only [h1]
      exact ⟨h2⟩
theorem wp_tryH {body : Sts} {hh i : Nat} {cl : List (List (Bool × XTy) × List HI)} {last : List HI} (h : Wp (exs P body st) Q (fun x s => P.isx x.c = true ∧ i < s.env.length ∧ (P.xsub x.c hh = false → E x s) ∧ (P.xsub x.c hh = true → ∃ ds, clD P x cl last = some ds ∧ ds.length ≤ 16777216 ∧ Q (.rt (.tup ds)) s))) : Wp (ex P (.tryH body hh i cl last) st) Q E := by
  simp only [ex]
  cases e : exs P body st with
  | ok a s => rw [e] at h; exact ⟨h.h⟩
  | bad => rw [e] at h; exact h.h.elim
  | exc x s =>
    rw [e] at h
    obtain ⟨h1, h2, h3, h4⟩ := h.h
    simp only
    rw [if_pos ⟨h1, h2⟩]
    cases hx : P.xsub x.c hh with
    | false => rw [if_neg (by decide)]; exact ⟨h3 hx⟩
    | true =>
      rw [if_pos rfl]
      obtain ⟨ds, h1, h2, h3⟩ := h4 hx
      simp only [h1]
      rw [if_pos h2]
      exact ⟨h3⟩
/-- a loop's turn -/
def Turn (Q : Flow' → Stt → Prop) (next : Stt → Prop) : Flow' → Stt → Prop
  | .nx, s => next s
  | .ct, s => next s
  | .bk, s => Q .nx s
  | .rt d, s => Q (.rt d) s
theorem wp_forF {i : Nat} {body : Stt → Out Flow'} (I : List D → Stt → Prop) (step : ∀ x xs st, I (x :: xs) st → Wp (body (st.put i (.sh x))) (Turn Q (I xs)) E) (fin : ∀ st, I [] st → Q .nx st) : ∀ xs st, I xs st → Wp (forF i body xs st) Q E
  | [], st, h => ⟨fin st h⟩
  | x :: xs, st, h => by
    simp only [forF]
    refine Wp.bind ((step x xs st h).mono (fun fl s h => ?_) fun _ _ x => x)
    cases fl with
    | nx => exact wp_forF I step fin xs s h
    | ct => exact wp_forF I step fin xs s h
    | bk => first | exact h | exact ⟨h⟩
    | rt d => first | exact h | exact ⟨h⟩
def For1 (P : Pg) (i : Nat) (k : ItK) (da db : D) (body : Sts) (Q : Flow' → Stt → Prop) (E : Exc → Stt → Prop) (s4 : Stt) : Prop := ∃ xs, iterD k da db = some xs ∧ Wp (forF i (exs P body) xs s4) Q E
theorem wp_for {i : Nat} {k : ItK} {a b : Lit.E} {body : Sts} (h : Wp (ev P a st) (fun ra s1 => Cap ra s1 fun da s2 => Wp (ev P b s2) (fun rb s3 => Cap rb s3 fun db s4 => For1 P i k da db body Q E s4) E) E) : Wp (ex P (.for_ i k a b body) st) Q E := by
  simp only [ex]
  refine Wp.bind (h.mono (fun ra s1 h => Wp.bind (Cap.wp ?_)) fun _ _ x => x)
  obtain ⟨da, s2, h1, h2⟩ := h
  refine ⟨da, s2, h1, Wp.bind (h2.mono (fun rb s3 h => Wp.bind (Cap.wp ?_)) fun _ _ x => x)⟩
  obtain ⟨db, s4, h1, xs, h2, h3⟩ := h
  refine ⟨db, s4, h1, ?_⟩
  simp only [h2]
  exact h3
theorem wp_whl {n : Nat} {c : Lit.E} {body : Sts} (I : Nat → Stt → Prop) (step : ∀ m st, I m st → ∃ k, m = k + 1 ∧ Wp (ev P c st) (fun r s => Tr r s (Wp (exs P body s) (Turn Q (I k)) E) (Q .nx s)) E) (h : I n st) : Wp (ex P (.whl n c body) st) Q E := by
  simp only [ex]
  have : ∀ m st, I m st → Wp (whlF (fun s => (ev P c s).bind truO) (exs P body) m st) Q E := by
    intro m
    induction m with
    | zero =>
      intro st h
      obtain ⟨k, e, _⟩ := step 0 st h
      cases e
    | succ m ih =>
      intro st h
      obtain ⟨k, e, h⟩ := step _ st h
      cases e
      simp only [whlF]
      refine Wp.bind (Wp.bind (h.mono (fun r s h => ?_) fun _ _ x => x))
      obtain ⟨d, b, h1, h2, h3, h4⟩ := h
      simp only [truO, h1, h2, ofOpt]
      refine wp_ok ?_
      cases b with
      | false => exact ⟨h4 rfl⟩
      | true =>
        refine Wp.bind ((h3 rfl).mono (fun fl s h => ?_) fun _ _ x => x)
        cases fl with
        | nx => exact ih s h
        | ct => exact ih s h
        | bk => first | exact h | exact ⟨h⟩
        | rt d => first | exact h | exact ⟨h⟩
  exact this n st h
theorem wp_nil (q : Q .nx st) : Wp (exs P .nil st) Q E := by simp only [exs]; first | exact q | exact ⟨q⟩
def Nxt (P : Pg) (ss : Sts) (Q : Flow' → Stt → Prop) (E : Exc → Stt → Prop) : Flow' → Stt → Prop
  | .nx, s => Wp (exs P ss s) Q E
  | fl, s => Q fl s
theorem wp_cons {s : St} {ss : Sts} (h : Wp (ex P s st) (Nxt P ss Q E) E) : Wp (exs P (.cons s ss) st) Q E := by
  simp only [exs]
  refine Wp.bind (h.mono (fun fl s h => ?_) fun _ _ x => x)
  cases fl <;> first | exact h | exact ⟨h⟩
end
end Lit
end
section
namespace Lit
open PySem L2
section
variable {s : Stt} {Q : Rv → Stt → Prop} {yes no : Prop} {P : Pg} {E : Exc → Stt → Prop}
/-- what a def leaves -/
def Fin (Q : D → List Cell → Prop) : Flow' → Stt → Prop
  | .rt d, s => Q d s.cs
  | .nx, s => Q .non s.cs
  | _, _ => False
theorem rs_run {np N : Nat} {ir : Sts} {ds : List D} {cs : List Cell} {Q : D → List Cell → Prop} {E : Exc → List Cell → Prop} (hl : ds.length = np) (h : Wp (exs P ir ⟨ds.map .sh ++ List.replicate (N - ds.length) .no, cs⟩) (Fin Q) (fun x s => E x s.cs)) : Rs (semN P np N ir ds cs) Q E := by
  unfold semN
  rw [if_pos hl]
  unfold runD
  cases e : exs P ir ⟨ds.map .sh ++ List.replicate (N - ds.length) .no, cs⟩ with
  | ok fl s =>
    rw [e] at h
    have h := h.h
    cases fl with
    | nx => exact ⟨h⟩
    | rt d => exact ⟨h⟩
    | bk => exact h.elim
    | ct => exact h.elim
  | exc x s => rw [e] at h; exact ⟨h.h⟩
  | bad => rw [e] at h; exact h.h.elim
theorem rs_go {np N : Nat} {ir : Sts} {ds : List D} {cs : List Cell} {Q : D → List Cell → Prop} {E : Exc → List Cell → Prop} (h : Wp (exs P ir ⟨ds.map .sh ++ List.replicate (N - ds.length) .no, cs⟩) (Fin Q) (fun x s => E x s.cs)) (hl : ds.length = np := by rfl) : Rs (semN P np N ir ds cs) Q E := rs_run hl h
theorem sem_call {tb : Tbl} {n f : Nat} {ds : List D} {cs : List Cell} {Q : D → List Cell → Prop} {E : Exc → List Cell → Prop} (h : Rs (semT tb n f ds cs) Q E) : Rs ((pgT tb (semT tb n)).sem f (ds ++ (pgT tb (semT tb n)).dfs f) cs) Q E := by
  have e : ds ++ (pgT tb (semT tb n)).dfs f = ds := List.append_nil ds
  rw [e]; exact h
theorem sem_mk {tb : Tbl} {n f : Nat} {d : D} {ds : List D} {cs : List Cell} {Q : D → List Cell → Prop} {E : Exc → List Cell → Prop} (h : Rs (semT tb n f (d :: ds) cs) Q E) : Rs ((pgT tb (semT tb n)).sem f (d :: (ds ++ (pgT tb (semT tb n)).dfs f)) cs) Q E := by
  have e : ds ++ (pgT tb (semT tb n)).dfs f = ds := List.append_nil ds
  rw [e]; exact h
theorem fin_rt {d : D} {Q : D → List Cell → Prop} (q : Q d s.cs) : Fin Q (.rt d) s := q
theorem fin_nx {Q : D → List Cell → Prop} (q : Q .non s.cs) : Fin Q .nx s := q
theorem nxt_nx {ss : Sts} {Q : Flow' → Stt → Prop} (h : Wp (exs P ss s) Q E) : Nxt P ss Q E .nx s := h
theorem nxt_rt {ss : Sts} {d : D} {Q : Flow' → Stt → Prop} (h : Q (.rt d) s) : Nxt P ss Q E (.rt d) s := h
theorem nxt_bk {ss : Sts} {Q : Flow' → Stt → Prop} (h : Q .bk s) : Nxt P ss Q E .bk s := h
theorem nxt_ct {ss : Sts} {Q : Flow' → Stt → Prop} (h : Q .ct s) : Nxt P ss Q E .ct s := h
theorem turn_nx {Q : Flow' → Stt → Prop} {n : Stt → Prop} (h : n s) : Turn Q n .nx s := h
theorem turn_ct {Q : Flow' → Stt → Prop} {n : Stt → Prop} (h : n s) : Turn Q n .ct s := h
theorem turn_bk {Q : Flow' → Stt → Prop} {n : Stt → Prop} (h : Q .nx s) : Turn Q n .bk s := h
theorem turn_rt {d : D} {Q : Flow' → Stt → Prop} {n : Stt → Prop} (h : Q (.rt d) s) : Turn Q n (.rt d) s := h
/-- a statement, then the rest from a state that M tells of -/
def Mid (M : Stt → Prop) (Q : Flow' → Stt → Prop) : Flow' → Stt → Prop
  | .nx, s => M s
  | fl, s => Q fl s
theorem wp_mid {st : St} {ss : Sts} {Q : Flow' → Stt → Prop} (M : Stt → Prop) (h : Wp (ex P st s) (Mid M Q) E) (h2 : ∀ s, M s → Wp (exs P ss s) Q E) : Wp (exs P (.cons st ss) s) Q E :=
  wp_cons (h.mono (fun fl s h => by cases fl <;> first | exact h2 _ h | exact h) fun _ _ x => x)
theorem is_ite {c : Lit.E} {a b ss : Sts} {Q : Flow' → Stt → Prop} (h : Wp (exs P (.cons (.ite c a b) ss) s) Q E) : Wp (exs P (.cons (.ite c a b) ss) s) Q E := h
theorem mid_nx {M : Stt → Prop} {Q : Flow' → Stt → Prop} (h : M s) : Mid M Q .nx s := h
theorem mid_rt {M : Stt → Prop} {Q : Flow' → Stt → Prop} {d : D} (h : Q (.rt d) s) : Mid M Q (.rt d) s := h
theorem view_own {n : Nat} {xs : List D} (h : s.cs[n]? = some (.lst xs)) : view s (.sh (.own n)) = some (.lst xs) := by simp only [view, cellV, h]
theorem view_ownI {n c : Nat} {fs : List (Str × D)} (h : s.cs[n]? = some (.ins c fs)) : view s (.sh (.own n)) = some (.own n) := by simp only [view, cellV, h]
theorem two_of {g : D → D → Option Rv} {ra rb : Rv} {d e : D} {z : Rv} (h1 : view s (setl ra) = some d) (h2 : view s rb = some e) (h3 : g d e = some z) (q : Q z s) : Two g ra rb Q s := ⟨d, e, z, h1, h2, h3, q⟩
theorem cm_of {o : CmpOp} {ra rb : Rv} {d e : D} {t : Bool} (h1 : view s (setl ra) = some d) (h2 : view s rb = some e) (h3 : gCmp o d e = some t) (q : Q (.sh (.bl t)) s) : Cm o ra rb Q s := ⟨d, e, t, h1, h2, h3, q⟩
theorem bi_of {b : Bi} {r : Rv} {d : D} {z : Rv} (h1 : view s r = some d) (h2 : gBi b [d] = some z) (q : Q z s) : Bi1 b r Q s := ⟨d, z, h1, h2, q⟩
theorem not_of {r : Rv} {d : D} {b : Bool} (h1 : view s r = some d) (h2 : gTru d = some b) (q : Q (.sh (.bl (!b))) s) : Not1 r s Q := ⟨d, b, h1, h2, q⟩
theorem tr_bl {b : Bool} (h1 : b = true → yes) (h2 : b = false → no) : Tr (.sh (.bl b)) s yes no := ⟨_, b, rfl, rfl, h1, h2⟩
theorem tr_T (h : yes) : Tr (.sh (.bl true)) s yes no := tr_bl (fun _ => h) (fun z => nomatch z)
theorem tr_F (h : no) : Tr (.sh (.bl false)) s yes no := tr_bl (fun z => nomatch z) fun _ => h
theorem tr_yes {b : Bool} (e : b = true) (h : yes) : Tr (.sh (.bl b)) s yes no := tr_bl (fun _ => h) (fun z => by rw [e] at z; cases z)
theorem tr_no {b : Bool} (e : b = false) (h : no) : Tr (.sh (.bl b)) s yes no := tr_bl (fun z => by rw [e] at z; cases z) fun _ => h
theorem tr_dec {p : Prop} [Decidable p] (h1 : p → yes) (h2 : ¬ p → no) : Tr (.sh (.bl (decide p))) s yes no := tr_bl (fun z => h1 (of_decide_eq_true z)) fun z => h2 (of_decide_eq_false z)
theorem tr_ndec {p : Prop} [Decidable p] (h1 : ¬ p → yes) (h2 : p → no) : Tr (.sh (.bl (!decide p))) s yes no := tr_bl (fun z => h1 (of_decide_eq_false (by simpa using z))) fun z => h2 (of_decide_eq_true (by simpa using z))
theorem tr_not {b : Bool} (h1 : b = false → yes) (h2 : b = true → no) : Tr (.sh (.bl (!b))) s yes no := tr_bl (fun z => h1 (by simpa using z)) fun z => h2 (by simpa using z)
theorem bt_bl {b : Bool} (h1 : b = true → yes) (h2 : b = false → no) : Bt (.sh (.bl b)) s yes no := ⟨_, rfl, h1, h2⟩
theorem bt_T (h : yes) : Bt (.sh (.bl true)) s yes no := bt_bl (fun _ => h) (fun z => nomatch z)
theorem bt_F (h : no) : Bt (.sh (.bl false)) s yes no := bt_bl (fun z => nomatch z) fun _ => h
theorem bt_yes {b : Bool} (e : b = true) (h : yes) : Bt (.sh (.bl b)) s yes no := bt_bl (fun _ => h) (fun z => by rw [e] at z; cases z)
theorem bt_no {b : Bool} (e : b = false) (h : no) : Bt (.sh (.bl b)) s yes no := bt_bl (fun z => by rw [e] at z; cases z) fun _ => h
theorem bt_dec {p : Prop} [Decidable p] (h1 : p → yes) (h2 : ¬ p → no) : Bt (.sh (.bl (decide p))) s yes no := bt_bl (fun z => h1 (of_decide_eq_true z)) fun z => h2 (of_decide_eq_false z)
theorem bt_ndec {p : Prop} [Decidable p] (h1 : ¬ p → yes) (h2 : p → no) : Bt (.sh (.bl (!decide p))) s yes no := bt_bl (fun z => h1 (of_decide_eq_false (by simpa using z))) fun z => h2 (of_decide_eq_true (by simpa using z))
theorem asg_sh {i : Nat} {d : D} {Q : Stt → Prop} (hi : i < s.env.length) (q : Q ⟨s.env.set i (.sh d), s.cs⟩) : Asg i (.sh d) s Q := ⟨_, _, rfl, hi, q⟩
theorem asg_fr {i : Nat} {xs : List D} {Q : Stt → Prop} (hi : i < s.env.length) (q : Q ⟨s.env.set i (.mu xs), s.cs⟩) : Asg i (.fr xs) s Q := ⟨_, _, rfl, hi, q⟩
theorem asg_rf {i j : Nat} {xs : List D} {Q : Stt → Prop} (h : s.env[j]? = some (.mu xs)) (hi : i < s.env.length) (q : Q ⟨(s.env.set j (.sh (.lst xs))).set i (.sh (.lst xs)), s.cs⟩) : Asg i (.rf j) s Q := by
  refine ⟨.sh (.lst xs), ⟨s.env.set j (.sh (.lst xs)), s.cs⟩, ?_, by simpa using hi, q⟩
  simp [slOf, capR, h]
theorem setix_ce {n k : Nat} {ri : Rv} {d : D} {xs : List D} {j : Int} {Q : Stt → Prop} (h : s.cs[n]? = some (.lst xs)) (hi : view s ri = some (.int j)) (hn : ixN xs.length j = some k) (q : Q ⟨s.env, s.cs.set n (.lst (xs.set k d))⟩) : SetIx (.sh (.own n)) ri d Q s :=
  ⟨.ce n, xs, j, k, by simp only [setl, locR, locD, h], hi, hn, q⟩
theorem setix_sl {i k : Nat} {ri : Rv} {d : D} {xs : List D} {j : Int} {Q : Stt → Prop} (h : s.env[i]? = some (.mu xs)) (hi : view s ri = some (.int j)) (hn : ixN xs.length j = some k) (q : Q ⟨s.env.set i (.mu (xs.set k d)), s.cs⟩) : SetIx (.rf i) ri d Q s :=
  ⟨.sl i, xs, j, k, by simp only [setl, locR, h], hi, hn, q⟩
theorem mu_ce {m : Me} {n : Nat} {ds xs ys : List D} {d : D} (h : s.cs[n]? = some (.lst xs)) (hg : gMu m xs ds = some (d, ys)) (q : Q (.sh d) ⟨s.env, s.cs.set n (.lst ys)⟩) : Mu1 m (.sh (.own n)) ds Q s :=
  ⟨.ce n, xs, d, ys, by simp only [setl, locR, locD, h], hg, q⟩
theorem mu_sl {m : Me} {i : Nat} {ds xs ys : List D} {d : D} (h : s.env[i]? = some (.mu xs)) (hg : gMu m xs ds = some (d, ys)) (q : Q (.sh d) ⟨s.env.set i (.mu ys), s.cs⟩) : Mu1 m (.rf i) ds Q s :=
  ⟨.sl i, xs, d, ys, by simp only [setl, locR, h], hg, q⟩
theorem me_of {m : Me} {r : Rv} {rs : List Rv} {d : D} {ds : List D} {z : Rv} (h1 : view s (setl r) = some d) (h2 : views s rs = some ds) (h3 : gMe m d ds = some z) (q : Q z s) : Me1 m r rs Q s := ⟨d, ds, z, h1, h2, h3, q⟩
theorem isi_of {t : Ty} {r : Rv} {d : D} {b : Bool} (h1 : view s r = some d) (h2 : gIsi P d t = some b) (q : Q (.sh (.bl b)) s) : Isi P t r Q s := ⟨d, b, h1, h2, q⟩
theorem fld_of {f : Str} {r : Rv} {c j : Nat} {ds : List D} {d : D} (h1 : view s r = some (.ins c ds)) (h2 : (P.fld c).idxOf? f = some j) (h3 : ds[j]? = some d) (q : Q (.sh d) s) : Fld P f r Q s := ⟨c, ds, j, d, h1, h2, h3, q⟩
theorem sl_of {ra : Rv} {l h : Option Int} {d : D} {z : Rv} (h1 : view s (setl ra) = some d) (h2 : gSl d l h = some z) (q : Q z s) : Sl1 ra l h Q s := ⟨d, z, h1, h2, q⟩
theorem int_of {r : Rv} {i : Int} {Q : Int → Prop} (h1 : view s r = some (.int i)) (q : Q i) : Int1 r s Q := ⟨i, h1, q⟩
theorem truu_of {r : Rv} {d : D} {b : Bool} {Q : Bool → Prop} (h1 : view s r = some d) (h2 : gTru d = some b) (q : Q b) : Tru r s Q := ⟨d, b, h1, h2, q⟩
theorem asgT_of {is : List Nat} {r : Rv} {ds : List D} {s1 : Stt} {Q : Stt → Prop} (h1 : view s r = some (.tup ds)) (h2 : putAll is ds s = some s1) (q : Q s1) : AsgT is r s Q := ⟨ds, s1, h1, h2, q⟩
theorem setf_of {f : Str} {n c : Nat} {d : D} {fs : List (Str × D)} {Q : Stt → Prop} (h : s.cs[n]? = some (.ins c fs)) (h2 : fs.length < 100) (h3 : (P.fld c).contains f = true) (q : Q ⟨s.env, s.cs.set n (.ins c (putD f d fs))⟩) : SetF P f (.sh (.own n)) d Q s :=
  ⟨n, c, fs, view_ownI h, h, h2, h3, q⟩
theorem append_g {xs : List D} {d : D} (h : xs.length < 16777216) : gMu .append xs [d] = some (.non, xs ++ [d]) := by
  simp only [gMu]
  rw [if_pos h]
theorem mul_r {i j : Int} (h : smallI j = true) : gBin .Mult (.int i) (.int j) = some (.sh (.int (i * j))) := by
  simp only [gBin, gMul]
  rw [if_pos (by rw [h, Bool.or_true])]
theorem mul_s {x : Str} {j : Int} (h : x.length ≤ 1000 ∧ 0 ≤ j ∧ j ≤ 1000) : gBin .Mult (.str x) (.int j) = some (.sh (.str (Txt.mul x j))) := by
  simp only [gBin, gMul]
  rw [if_pos h]
theorem small_of {i : Int} (h : -18446744073709551616 < i ∧ i < 18446744073709551616) : smallI i = true := by
  unfold smallI
  rw [decide_eq_true (show -(2 ^ 64) < i by have := h.1; omega), decide_eq_true (show i < 2 ^ 64 by have := h.2; omega)]
  rfl
theorem mod_r {i j : Int} (h : 0 < j) : gBin .Mod (.int i) (.int j) = some (.sh (.int (i % j))) := by
  simp only [gBin, gMod]
  rw [if_pos h]
theorem fdiv_r {i j : Int} (h : 0 < j ∧ j < 2 ^ 256) : gBin .FloorDiv (.int i) (.int j) = some (.sh (.int (i / j))) := by
  simp only [gBin, gFdiv]
  rw [if_pos h]
theorem add_s {x y : Str} (h : x.length + y.length ≤ 16777216) : gBin .Add (.str x) (.str y) = some (.sh (.str (x ++ y))) := by
  simp only [gBin, gAdd]
  rw [if_pos h]
theorem add_l {x y : List D} (h : x.length + y.length ≤ 16777216) : gBin .Add (.lst x) (.lst y) = some (.fr (x ++ y)) := by
  simp only [gBin, gAdd]
  rw [if_pos h]
theorem len_s {x : Str} (h : x.length ≤ 16777216) : gBi .len [.str x] = some (.sh (.int x.length)) := by
  simp only [gBi]
  rw [if_pos h]
theorem str_i {i : Int} (h : i.natAbs < 2 ^ 1900) : gBi .str [.int i] = some (.sh (.str (toString i : String))) := by
  simp only [gBi]
  rw [if_pos h]
end
section
variable {P : Pg} {Q : Rv → Stt → Prop}
theorem set_back {α : Type} {l : List α} {i : Nat} {x y : α} (h : l[i]? = some y) : (l.set i x).set i y = l := by
  rw [List.set_set]
  obtain ⟨hi, e⟩ := List.getElem?_eq_some_iff.mp h
  rw [← e]
  exact List.set_getElem_self hi
theorem lc_run {i : Nat} {cond : Stt → Out Bool} {el : Stt → Out Rv} {s : Stt} (c : D → Bool) (f : D → D) : ∀ (xs : List D) (acc : List D) (s1 : Stt), (∃ x, s1 = ⟨s.env.set i x, s.cs⟩) → acc.length + xs.length < 16777216 →
    (∀ x ∈ xs, cond ⟨s.env.set i (.sh x), s.cs⟩ = .ok (c x) ⟨s.env.set i (.sh x), s.cs⟩) → (∀ x ∈ xs, c x = true → Wp (el ⟨s.env.set i (.sh x), s.cs⟩) (fun r s2 => Cap r s2 fun d s3 => d = f x ∧ s3 = ⟨s.env.set i (.sh x), s.cs⟩) X0) →
    ∃ x, lcF i cond el xs acc s1 = .ok (acc ++ (xs.filter c).map f) ⟨s.env.set i x, s.cs⟩
  | [], acc, s1, ⟨x, e⟩, _, _, _ => ⟨x, by subst e; simp [lcF]⟩
  | x :: xs, acc, s1, ⟨y, e⟩, hl, hc, he => by
    subst e
    have e1 : Stt.put ⟨s.env.set i y, s.cs⟩ i (.sh x) = ⟨s.env.set i (.sh x), s.cs⟩ := by simp [Stt.put, List.set_set]
    simp only [lcF, e1]
    rw [hc x (by simp)]
    simp only [Out.bind_ok]
    cases hx : c x with
    | false =>
      simp only
      obtain ⟨z, h⟩ := lc_run c f xs acc _ ⟨.sh x, rfl⟩ (by simp at hl; omega) (fun z hz => hc z (List.mem_cons_of_mem _ hz)) (fun z hz => he z (List.mem_cons_of_mem _ hz))
      exact ⟨z, by rw [h]; simp [hx]⟩
    | true =>
      simp only
      have h := he x (by simp) hx
      cases e2 : el ⟨s.env.set i (.sh x), s.cs⟩ with
      | bad => rw [e2] at h; exact h.h.elim
      | exc u v => rw [e2] at h; exact h.h.elim
      | ok r s2 =>
        rw [e2] at h
        obtain ⟨d, s3, h1, h2, h3⟩ := h.h
        subst h2 h3
        simp only [Out.bind_ok, capO, h1]
        rw [if_pos (by simp at hl; omega)]
        obtain ⟨z, h⟩ := lc_run c f xs (acc ++ [f x]) _ ⟨.sh x, rfl⟩ (by simp at hl ⊢; omega) (fun z hz => hc z (List.mem_cons_of_mem _ hz)) (fun z hz => he z (List.mem_cons_of_mem _ hz))
        exact ⟨z, by rw [h]; simp [hx]⟩
/-- a comprehension whose parts change nothing -/
theorem lc_pureF {i : Nat} {cond : Stt → Out Bool} {el : Stt → Out Rv} {s : Stt} {sl : Sl} {xs : List D} (c : D → Bool) (f : D → D) (hi : s.env[i]? = some sl) (hl : xs.length < 16777216)
    (hc : ∀ x ∈ xs, Wp (cond ⟨s.env.set i (.sh x), s.cs⟩) (fun b s2 => b = c x ∧ s2 = ⟨s.env.set i (.sh x), s.cs⟩) X0)
    (he : ∀ x ∈ xs, c x = true → Wp (el ⟨s.env.set i (.sh x), s.cs⟩) (fun r s2 => Cap r s2 fun d s3 => d = f x ∧ s3 = ⟨s.env.set i (.sh x), s.cs⟩) X0) (q : Q (.fr ((xs.filter c).map f)) s) :
    Wp (lcF i cond el xs [] s) (fun ys s5 => Q (.fr ys) { s5 with env := s5.env.set i sl }) X0 := by
  have hc' : ∀ x ∈ xs, cond ⟨s.env.set i (.sh x), s.cs⟩ = .ok (c x) ⟨s.env.set i (.sh x), s.cs⟩ := fun x hx => by
    have h := hc x hx
    cases e : cond ⟨s.env.set i (.sh x), s.cs⟩ with
    | bad => rw [e] at h; exact h.h.elim
    | exc u v => rw [e] at h; exact h.h.elim
    | ok b s2 => rw [e] at h; obtain ⟨rfl, rfl⟩ := h.h; rfl
  have hs : s.env.set i sl = s.env := by
    obtain ⟨h1, e⟩ := List.getElem?_eq_some_iff.mp hi
    rw [← e]
    exact List.set_getElem_self h1
  obtain ⟨z, h⟩ := lc_run (s := s) c f xs [] s ⟨sl, by rw [hs]⟩ (by simpa using hl) hc' he
  rw [h]
  refine wp_ok ?_
  show Q _ ⟨(s.env.set i z).set i sl, s.cs⟩
  rw [set_back hi, List.nil_append]
  exact q
theorem lc_of {i : Nat} {k : ItK} {da db : D} {cond : Es} {el : Lit.E} {s : Stt} {sl : Sl} {xs : List D} (c : D → Bool) (f : D → D) (hx : iterD k da db = some xs) (hi : s.env[i]? = some sl) (hm : isMu sl = false) (hl : xs.length < 16777216)
    (hc : ∀ x ∈ xs, Wp (evConds P cond ⟨s.env.set i (.sh x), s.cs⟩) (fun b s2 => b = c x ∧ s2 = ⟨s.env.set i (.sh x), s.cs⟩) X0)
    (he : ∀ x ∈ xs, c x = true → Wp (ev P el ⟨s.env.set i (.sh x), s.cs⟩) (fun r s2 => Cap r s2 fun d s3 => d = f x ∧ s3 = ⟨s.env.set i (.sh x), s.cs⟩) X0) (q : Q (.fr ((xs.filter c).map f)) s) : Lc1 P i k da db cond el Q s :=
  ⟨xs, none, sl, by simp only [iterS, hx], hi, hm, lc_pureF c f hi hl hc he q⟩
theorem chk_wp {α : Type} {n : Nat} {xs : List D} {f : Stt → Out α} {st : Stt} {Q : α → Stt → Prop} {E : Exc → Stt → Prop} (h : Wp (f st) (fun r s => okC (some n) xs s = true ∧ Q r s) E) : Wp (chk (some n) xs f st) Q E :=
  Wp.bind (h.mono (fun r s h => by rw [if_pos h.1]; exact wp_ok h.2) fun _ _ x => x)
theorem cap_cs2 {r : Rv} {st s' : Stt} {d : D} (h : capR r st = some (d, s')) : s'.cs = st.cs := by
  unfold capR at h
  split at h
  · cases h; rfl
  · cases h; rfl
  · split at h
    · cases h; rfl
    · cases h; rfl
    · cases h
theorem eqFls_self : ∀ {xs : List D}, xs.all isFlat = true → eqFls xs xs = true
  | [], _ => rfl
  | x :: xs, h => by
    rw [List.all_cons, Bool.and_eq_true] at h
    have h1 : idFl x x = true := by cases x <;> first | rfl | (exact decide_eq_true rfl) | (exact absurd h.1 (by simp [isFlat]))
    simp only [eqFls, h1, eqFls_self h.2, Bool.and_self]
/-- over the items of a cell -/
theorem lc_cel {i n : Nat} {db : D} {cond : Es} {el : Lit.E} {s : Stt} {sl : Sl} {xs : List D} (c : D → Bool) (f : D → D) (hn : s.cs[n]? = some (.lst xs)) (hf : xs.all isFlat = true) (hi : s.env[i]? = some sl) (hm : isMu sl = false) (hl : xs.length < 16777216)
    (hc : ∀ x ∈ xs, Wp (evConds P cond ⟨s.env.set i (.sh x), s.cs⟩) (fun b s2 => b = c x ∧ s2 = ⟨s.env.set i (.sh x), s.cs⟩) X0)
    (he : ∀ x ∈ xs, c x = true → Wp (ev P el ⟨s.env.set i (.sh x), s.cs⟩) (fun r s2 => Cap r s2 fun d s3 => d = f x ∧ s3 = ⟨s.env.set i (.sh x), s.cs⟩) X0) (q : Q (.fr ((xs.filter c).map f)) s) : Lc1 P i .lst (.own n) db cond el Q s := by
  have ok : ∀ s2 : Stt, s2.cs = s.cs → okC (some n) xs s2 = true := fun s2 e => by
    simp only [okC, e, hn]
    exact eqFls_self hf
  refine ⟨xs, some n, sl, by simp only [iterS, iterD, hn, hf, if_true], hi, hm, lc_pureF c f hi hl (fun x hx => chk_wp ((hc x hx).mono (fun b s2 h => ⟨ok s2 (by rw [h.2]), h⟩) fun _ _ x => x)) (fun x hx hcx => chk_wp ((he x hx hcx).mono (fun r s2 h => ⟨ok s2 ?_, h⟩) fun _ _ x => x)) q⟩
  obtain ⟨d, s3, h1, h2, h3⟩ := h
  have := cap_cs2 h1
  rw [h3] at this
  exact this.symm
/-- [str(x) for x in ..] of numbers -/
theorem lc_str {i : Nat} {k : ItK} {da db : D} {s : Stt} {sl : Sl} {xs : List Int} (hx : iterD k da db = some (xs.map .int)) (hi : s.env[i]? = some sl) (hm : isMu sl = false) (hl : xs.length < 16777216) (hb : ∀ x ∈ xs, x.natAbs < 2 ^ 1900)
    (q : Q (.fr ((xs.map fun x => ((toString x : String) : Str)).map .str)) s) : Lc1 P i k da db .nil (.bi .str (.v i)) Q s := by
  have hlt := (List.getElem?_eq_some_iff.mp hi).1
  refine lc_of (fun _ => true) (fun d => match d with
    | .int x => .str ((toString x : String) : Str)
    | d => d) hx hi hm (by simpa using hl) (fun x _ => wp_conds0 ⟨rfl, rfl⟩) (fun x hx _ => ?_) ?_
  · obtain ⟨v, hv, rfl⟩ := List.mem_map.mp hx
    refine wp_bi (wp_v (d := .int v) (by simp [hlt]) ?_)
    exact bi_of rfl (str_i (hb v hv)) (cap_sh ⟨rfl, rfl⟩)
  · rw [List.filter_eq_self.mpr (fun _ _ => rfl), List.map_map]
    rw [List.map_map] at q
    exact q
end
section
variable {P : Pg}
/-- a loop over mapped items, by the part that is done -/
theorem for_map {α : Type} {f : α → D} {E : Exc → Stt → Prop} {Q : Flow' → Stt → Prop} {i : Nat} {body : Stt → Out Flow'} (l : List α) (I : List α → Stt → Prop) (step : ∀ pre x post st, l = pre ++ x :: post → I pre st → Wp (body (st.put i (.sh (f x)))) (Turn Q (I (pre ++ [x]))) E) (fin : ∀ st, I l st → Q .nx st) (st : Stt) (h : I [] st) : Wp (forF i body (l.map f) st) Q E := by
  refine wp_forF (fun xs st => ∃ pre post, l = pre ++ post ∧ xs = post.map f ∧ I pre st) (fun x xs st h => ?_) (fun st h => ?_) _ st ⟨[], l, rfl, rfl, h⟩
  · obtain ⟨pre, post, e, e2, hI⟩ := h
    cases post with
    | nil => cases e2
    | cons y post =>
      rw [List.map_cons] at e2
      obtain ⟨rfl, rfl⟩ := List.cons.inj e2
      refine (step pre y post st e hI).mono (fun fl s h => ?_) fun _ _ x => x
      cases fl with
      | nx => exact ⟨pre ++ [y], post, by rw [e, List.append_assoc]; rfl, rfl, h⟩
      | ct => exact ⟨pre ++ [y], post, by rw [e, List.append_assoc]; rfl, rfl, h⟩
      | bk => exact h
      | rt d => exact h
  · obtain ⟨pre, post, e, e2, hI⟩ := h
    cases post with
    | nil => rw [List.append_nil] at e; rw [e] at fin; exact fin st hI
    | cons y post => cases e2
end
mutual
theorem low_up (n : Nat) : ∀ d : D, low 0 d = true → low n d = true
  | .own m, h => by simp [low] at h
  | .lst xs, h => by simp only [low] at h ⊢; exact lows_up n xs h
  | .tup xs, h => by simp only [low] at h ⊢; exact lows_up n xs h
  | .ins _ xs, h => by simp only [low] at h ⊢; exact lows_up n xs h
  | .non, _ => by simp [low]
  | .bl _, _ => by simp [low]
  | .int _, _ => by simp [low]
  | .str _, _ => by simp [low]
  | .scr _, _ => by simp [low]
theorem lows_up (n : Nat) : ∀ ds : List D, lows 0 ds = true → lows n ds = true
  | [], _ => by simp [lows]
  | d :: ds, h => by
    simp only [lows, Bool.and_eq_true] at h ⊢
    exact ⟨low_up n d h.1, lows_up n ds h.2⟩
end
theorem lowC_up (n : Nat) : ∀ c : Cell, lowC 0 c = true → lowC n c = true
  | .lst xs, h => lows_up n xs h
  | .ins _ fs, h => by
    simp only [lowC, List.all_eq_true] at h ⊢
    exact fun p hp => low_up n _ (h p hp)
theorem lows_map {α : Type} {f : α → D} (h : ∀ a, low 0 (f a) = true) : ∀ l : List α, lows 0 (l.map f) = true
  | [] => by simp [lows]
  | a :: l => by simp [lows, h a, lows_map h l]
/-- cells that hold no cells -/
def Zc0 (cs : List Cell) : Prop := cs.all (lowC 0) = true
theorem Zc0.up {cs : List Cell} (h : Zc0 cs) (n : Nat) : cs.all (lowC n) = true := by
  unfold Zc0 at h
  rw [List.all_eq_true] at h ⊢
  exact fun c hc => lowC_up n c (h c hc)
end Lit
end
section
set_option maxHeartbeats 0
namespace K86
open PySem PySem.Spec PyProof.Rows L2 Lit
theorem B (sem : Nat → Sem') : tb.ds.all (defB (pgT tb sem)) = true := by
  kernel_rfl
end K86
end
section
namespace K86
open PySem L2 Lit
local macro_rules | `(tactic| walk_at "vw") => `(tactic| first | rfl | exact view_own (by assumption) | exact view_ownI (by assumption))
local macro_rules | `(tactic| walk_at "op") => `(tactic| first
  | rfl
  | exact mul_r (by first | rfl | exact small_of (by omega))
  | exact mod_r (by omega)
  | exact fdiv_r (by omega)
  | exact add_s (by assumption)
  | exact len_s (by omega)
  | exact str_i (by omega)
  | exact append_g (by omega))
local macro_rules | `(tactic| walk_at "one") => `(tactic| first
  | (with_reducible refine wp_cons ?_) | (with_reducible refine wp_ite ?_) | (with_reducible refine wp_asg ?_) | (with_reducible refine wp_ret ?_) | (with_reducible refine wp_ex ?_) | (with_reducible refine wp_nil ?_)
  | (with_reducible refine wp_bin ?_) | (with_reducible refine wp_cmp ?_) | (with_reducible refine wp_k ?_) | (with_reducible refine wp_ix ?_) | (with_reducible refine wp_bi ?_) | (with_reducible refine wp_not ?_)
  | ((with_reducible refine' wp_v ?h1 ?_); case h1 => rfl) | ((with_reducible refine' wp_vm ?h1 ?_); case h1 => rfl) | ((with_reducible refine' wp_g ?h1 ?_); case h1 => rfl)
  | (with_reducible refine wp_call ?_) | (with_reducible refine sem_call ?_) | (with_reducible refine sem_mk ?_) | (with_reducible refine wp_evc ?_) | (with_reducible refine wp_evc0 ?_) | (with_reducible refine wp_evs ?_) | (with_reducible refine wp_evs0 ?_)
  | (with_reducible refine wp_and ?_) | (with_reducible refine wp_or ?_) | (with_reducible refine wp_andc ?_) | (with_reducible refine wp_orc ?_) | (with_reducible refine wp_and1 ?_) | (with_reducible refine wp_or1 ?_)
  | (with_reducible refine mid_nx ?_) | (with_reducible refine mid_rt ?_) | (with_reducible refine nxt_nx ?_) | (with_reducible refine nxt_rt ?_) | (with_reducible refine fin_rt ?_) | (with_reducible refine fin_nx ?_)
  | (with_reducible refine cap_sh ?_) | (with_reducible refine cap_fr ?_) | ((with_reducible refine' cap_rf ?h1 ?_); case h1 => rfl)
  | ((with_reducible refine asg_sh ?h1 ?_); (case h1 => exact Nat.le_of_ble_eq_true rfl); (try dsimp only [List.set_cons_zero, List.set_cons_succ, Int.reduceToNat])) | ((with_reducible refine asg_fr ?h1 ?_); (case h1 => exact Nat.le_of_ble_eq_true rfl); (try dsimp only [List.set_cons_zero, List.set_cons_succ, Int.reduceToNat]))
  | ((with_reducible refine' two_of ?h1 ?h2 ?h3 ?_); (case h1 => walk_at "vw"); (case h2 => walk_at "vw"); (case h3 => walk_at "op"))
  | ((with_reducible refine' cm_of ?h1 ?h2 ?h3 ?_); (case h1 => walk_at "vw"); (case h2 => walk_at "vw"); (case h3 => walk_at "op"))
  | ((with_reducible refine' bi_of ?h1 ?h2 ?_); (case h1 => walk_at "vw"); (case h2 => walk_at "op"))
  | ((with_reducible refine' not_of ?h1 ?h2 ?_); (case h1 => walk_at "vw"); (case h2 => rfl))
  | (with_reducible refine wp_tup ?_) | (with_reducible refine wp_lst ?_) | (with_reducible refine wp_chn ?_) | (with_reducible refine wp_setix ?_) | (with_reducible refine wp_no ?_) | (with_reducible refine wp_for ?_) | (with_reducible refine wp_lc ?_) | (with_reducible refine wp_isi ?_) | (with_reducible refine wp_ret0 ?_) | (with_reducible refine wp_conds0 ?_) | (with_reducible refine wp_conds ?_)
  | (with_reducible refine turn_nx ?_) | (with_reducible refine turn_rt ?_) | (with_reducible refine turn_bk ?_) | (with_reducible refine turn_ct ?_) | (with_reducible refine wp_me ?_) | (with_reducible refine wp_mu ?_) | (with_reducible refine wp_fld ?_) | (with_reducible refine wp_sl0 ?_) | (with_reducible refine wp_part0 ?_) | (with_reducible refine wp_part rfl ?_) | (with_reducible refine wp_raise ?_) | (with_reducible refine wp_ife ?_) | (with_reducible refine wp_neg ?_) | (with_reducible refine wp_lrng ?_) | (with_reducible refine wp_inv ?_) | (with_reducible refine wp_con ?_) | (with_reducible refine wp_cell ?_)
  | ((with_reducible refine' setix_ce ?h1 ?h2 ?h3 ?_); (case h1 => first | rfl | assumption); (case h2 => walk_at "vw"); (case h3 => rfl); (try dsimp only [List.set_cons_zero, List.set_cons_succ, Int.reduceToNat]))
  | ((with_reducible refine' setix_sl ?h1 ?h2 ?h3 ?_); (case h1 => rfl); (case h2 => walk_at "vw"); (case h3 => first | rfl | assumption); (try dsimp only [List.set_cons_zero, List.set_cons_succ, Int.reduceToNat]))
  | ((with_reducible refine' mu_ce ?h1 ?h2 ?_); (case h1 => first | rfl | assumption); (case h2 => walk_at "op"); (try dsimp only [List.set_cons_zero, List.set_cons_succ, Int.reduceToNat]))
  | ((with_reducible refine' mu_sl ?h1 ?h2 ?_); (case h1 => rfl); (case h2 => walk_at "op"); (try dsimp only [List.set_cons_zero, List.set_cons_succ, Int.reduceToNat]))
  | ((with_reducible refine' me_of ?h1 ?h2 ?h3 ?_); (case h1 => walk_at "vw"); (case h2 => rfl); (case h3 => walk_at "op"))
  | ((with_reducible refine' isi_of ?h1 ?h2 ?_); (case h1 => walk_at "vw"); (case h2 => rfl))
  | ((with_reducible refine' fld_of ?h1 ?h2 ?h3 ?_); (case h1 => walk_at "vw"); (case h2 => first | rfl | decide +kernel); (case h3 => rfl))
  | ((with_reducible refine' sl_of ?h1 ?h2 ?_); (case h1 => walk_at "vw"); (case h2 => walk_at "op"))
  | ((with_reducible refine' int_of ?h1 ?_); (case h1 => walk_at "vw"))
  | ((with_reducible refine' truu_of ?h1 ?h2 ?_); (case h1 => walk_at "vw"); (case h2 => rfl))
  | ((with_reducible refine' asgT_of ?h1 ?h2 ?_); (case h1 => walk_at "vw"); (case h2 => rfl); (try dsimp only [List.set_cons_zero, List.set_cons_succ, Int.reduceToNat]))
  | ((with_reducible refine And.intro ?h1 ?_); (case h1 => first | rfl | exact Nat.le_of_ble_eq_true rfl))
  | (with_reducible refine tr_T ?_) | (with_reducible refine tr_F ?_) | (with_reducible refine bt_T ?_) | (with_reducible refine bt_F ?_)
  | ((with_reducible refine tr_yes ?h1 ?_); case h1 => first | rfl | assumption) | ((with_reducible refine tr_no ?h1 ?_); case h1 => first | rfl | assumption)
  | ((with_reducible refine bt_yes ?h1 ?_); case h1 => first | rfl | assumption) | ((with_reducible refine bt_no ?h1 ?_); case h1 => first | rfl | assumption))
local macro_rules | `(tactic| walk_at "go") => `(tactic| repeat (walk_at "one"))
local macro_rules | `(tactic| walk_at "start") => `(tactic| dsimp only [List.map_cons, List.map_nil, List.length_cons, List.length_nil, Nat.reduceAdd, Nat.reduceSub, List.replicate, List.cons_append, List.nil_append])
local macro_rules | `(tactic| walk_at "gos") => `(tactic| repeat ((fail_if_success (with_reducible refine is_ite ?_)); walk_at "one"))
local macro_rules | `(tactic| walk_at "norm") => `(tactic| simp only [List.set_cons_zero, List.set_cons_succ, List.map_cons, List.map_nil, List.cons_append, List.nil_append, Stt.put])
def mix (a b : Int) : Int :=
  let f := (a * 48271 + b * 69621 + 11) % 2147483647
  let g := (f * 16807 + f / 3 + b * 40692) % 2147483399
  (g * g + f) % 2147483629
theorem s_mixed (n : Nat) (a b : Int) (cs : List Cell) {Q : D → List Cell → Prop} {E : Exc → List Cell → Prop} (q : Q (.int (mix a b)) cs) : Rs (semT tb (n + 1) 1 [.int a, .int b] cs) Q E := by
  refine rs_go (P := pgT tb (semT tb n)) (np := 2) (N := 4) (ir := ir1) ?_
  walk_at "start"
  unfold ir1
  have h0 : ∀ x : Int, 0 ≤ x % 2147483399 ∧ x % 2147483399 < 2147483399 := fun x => ⟨Int.emod_nonneg _ (by decide), Int.emod_lt_of_pos _ (by decide)⟩
  walk_at "go"
  exact q
/-- the source's cell -/
def srcC (ns : List Int) (pos : Nat) (cell left turn : Int) (raw : Bool) : Cell := .lst [.lst (ns.map .int), .int pos, .int cell, .int left, .int turn, .bl raw]
def SrcP (c : Cell) : Prop := ∃ (ns : List Int) (pos : Nat) (cell left turn : Int) (raw : Bool), c = srcC ns pos cell left turn raw ∧ pos ≤ ns.length ∧ ns.length ≤ 63
theorem ix_ints {ns : List Int} {i : Nat} (h : i < ns.length) : gIx (.lst (ns.map .int)) (.int (i : Int)) = some (.sh (.int ns[i])) := by
  simp only [gIx, atI, ixN, List.length_map]
  rw [if_pos (by omega), if_pos (by omega)]
  simp [h]
theorem len_ints {ns : List Int} : gBi .len [.lst (ns.map .int)] = some (.sh (.int ns.length)) := by
  simp [gBi]
local macro_rules | `(tactic| walk_at "op") => `(tactic| first | exact len_ints | exact ix_ints (by omega))
theorem s_draw (n : Nat) (lim : Int) (c : Cell) (rest : List Cell) (hl : 0 < lim ∧ lim < 2 ^ 256) (hc : SrcP c) {Q : D → List Cell → Prop} {E : Exc → List Cell → Prop} (q : ∀ r c', 0 ≤ r → r < lim → SrcP c' → Q (.int r) (c' :: rest)) : Rs (semT tb (n + 2) 2 [.own 0, .int lim] (c :: rest)) Q E := by
  obtain ⟨ns, pos, cell, left, turn, raw, rfl, hp, h63⟩ := hc
  have hm : ∀ x : Int, 0 ≤ x % lim ∧ x % lim < lim := fun x => ⟨Int.emod_nonneg _ (by omega), Int.emod_lt_of_pos _ hl.1⟩
  refine rs_go (P := pgT tb (semT tb (n + 1))) (np := 2) (N := 3) (ir := ir2) ?_
  walk_at "start"
  unfold ir2 srcC
  refine wp_mid (fun st => ∃ c', SrcP c' ∧ st = ⟨[.sh (.own 0), .sh (.int lim), .no], c' :: rest⟩) ?_ fun st hst => ?_
  · walk_at "go"
    refine tr_dec (fun h0 => ?_) fun h0 => ?_
    · walk_at "go"
      refine tr_dec (fun h1 => ?_) fun h1 => ?_
      · walk_at "go"
        exact q 0 _ (by omega) hl.1 ⟨ns, pos, cell, left, turn, raw, rfl, hp, h63⟩
      · walk_at "go"
        refine tr_dec (fun h2 => ?_) fun h2 => ?_
        · walk_at "go"
          exact ⟨_, ⟨ns, pos + 1, _, _, _, _, rfl, by omega, h63⟩, rfl⟩
        · walk_at "go"
          exact ⟨_, ⟨ns, pos + 1, _, _, _, _, rfl, by omega, h63⟩, rfl⟩
    · walk_at "go"
      exact ⟨_, ⟨ns, pos, cell, left, turn, raw, rfl, hp, h63⟩, rfl⟩
  · obtain ⟨c', ⟨ns, pos, cell, left, turn, raw, rfl, hp, h63⟩, rfl⟩ := hst
    unfold srcC
    walk_at "go"
    refine tr_not (fun h0 => ?_) fun h0 => ?_
    · walk_at "go"
      refine s_mixed n _ _ _ ?_
      walk_at "go"
      exact q _ _ (hm _).1 (hm _).2 ⟨ns, pos, _, _, _, _, rfl, hp, h63⟩
    · walk_at "go"
      refine tr_dec (fun h1 => ?_) fun h1 => ?_
      · walk_at "go"
        exact q _ _ (hm _).1 (hm _).2 ⟨ns, pos, _, _, _, _, rfl, hp, h63⟩
      · walk_at "go"
        exact q _ _ (hm _).1 (hm _).2 ⟨ns, pos, _, _, _, _, rfl, hp, h63⟩
end K86
end
section
set_option maxHeartbeats 1000000
namespace K86
open PySem L2 Lit
local macro_rules | `(tactic| walk_at "vw") => `(tactic| first | rfl | exact view_own (by assumption) | exact view_ownI (by assumption))
local macro_rules | `(tactic| walk_at "op") => `(tactic| first
  | rfl
  | exact mul_r (by first | rfl | exact small_of (by omega))
  | exact mod_r (by omega)
  | exact fdiv_r (by omega)
  | exact add_s (by assumption)
  | exact len_s (by omega)
  | exact str_i (by omega)
  | exact append_g (by omega))
local macro_rules | `(tactic| walk_at "one") => `(tactic| first
  | (with_reducible refine wp_cons ?_) | (with_reducible refine wp_ite ?_) | (with_reducible refine wp_asg ?_) | (with_reducible refine wp_ret ?_) | (with_reducible refine wp_ex ?_) | (with_reducible refine wp_nil ?_)
  | (with_reducible refine wp_bin ?_) | (with_reducible refine wp_cmp ?_) | (with_reducible refine wp_k ?_) | (with_reducible refine wp_ix ?_) | (with_reducible refine wp_bi ?_) | (with_reducible refine wp_not ?_)
  | ((with_reducible refine' wp_v ?h1 ?_); case h1 => rfl) | ((with_reducible refine' wp_vm ?h1 ?_); case h1 => rfl) | ((with_reducible refine' wp_g ?h1 ?_); case h1 => rfl)
  | (with_reducible refine wp_call ?_) | (with_reducible refine sem_call ?_) | (with_reducible refine sem_mk ?_) | (with_reducible refine wp_evc ?_) | (with_reducible refine wp_evc0 ?_) | (with_reducible refine wp_evs ?_) | (with_reducible refine wp_evs0 ?_)
  | (with_reducible refine wp_and ?_) | (with_reducible refine wp_or ?_) | (with_reducible refine wp_andc ?_) | (with_reducible refine wp_orc ?_) | (with_reducible refine wp_and1 ?_) | (with_reducible refine wp_or1 ?_)
  | (with_reducible refine mid_nx ?_) | (with_reducible refine mid_rt ?_) | (with_reducible refine nxt_nx ?_) | (with_reducible refine nxt_rt ?_) | (with_reducible refine fin_rt ?_) | (with_reducible refine fin_nx ?_)
  | (with_reducible refine cap_sh ?_) | (with_reducible refine cap_fr ?_) | ((with_reducible refine' cap_rf ?h1 ?_); case h1 => rfl)
  | ((with_reducible refine asg_sh ?h1 ?_); (case h1 => exact Nat.le_of_ble_eq_true rfl); (try dsimp only [List.set_cons_zero, List.set_cons_succ, Int.reduceToNat])) | ((with_reducible refine asg_fr ?h1 ?_); (case h1 => exact Nat.le_of_ble_eq_true rfl); (try dsimp only [List.set_cons_zero, List.set_cons_succ, Int.reduceToNat]))
  | ((with_reducible refine' two_of ?h1 ?h2 ?h3 ?_); (case h1 => walk_at "vw"); (case h2 => walk_at "vw"); (case h3 => walk_at "op"))
  | ((with_reducible refine' cm_of ?h1 ?h2 ?h3 ?_); (case h1 => walk_at "vw"); (case h2 => walk_at "vw"); (case h3 => walk_at "op"))
  | ((with_reducible refine' bi_of ?h1 ?h2 ?_); (case h1 => walk_at "vw"); (case h2 => walk_at "op"))
  | ((with_reducible refine' not_of ?h1 ?h2 ?_); (case h1 => walk_at "vw"); (case h2 => rfl))
  | (with_reducible refine wp_tup ?_) | (with_reducible refine wp_lst ?_) | (with_reducible refine wp_chn ?_) | (with_reducible refine wp_setix ?_) | (with_reducible refine wp_no ?_) | (with_reducible refine wp_for ?_) | (with_reducible refine wp_lc ?_) | (with_reducible refine wp_isi ?_) | (with_reducible refine wp_ret0 ?_) | (with_reducible refine wp_conds0 ?_) | (with_reducible refine wp_conds ?_)
  | (with_reducible refine turn_nx ?_) | (with_reducible refine turn_rt ?_) | (with_reducible refine turn_bk ?_) | (with_reducible refine turn_ct ?_) | (with_reducible refine wp_me ?_) | (with_reducible refine wp_mu ?_) | (with_reducible refine wp_fld ?_) | (with_reducible refine wp_sl0 ?_) | (with_reducible refine wp_part0 ?_) | (with_reducible refine wp_part rfl ?_) | (with_reducible refine wp_raise ?_) | (with_reducible refine wp_ife ?_) | (with_reducible refine wp_neg ?_) | (with_reducible refine wp_lrng ?_) | (with_reducible refine wp_inv ?_) | (with_reducible refine wp_con ?_) | (with_reducible refine wp_cell ?_)
  | ((with_reducible refine' setix_ce ?h1 ?h2 ?h3 ?_); (case h1 => first | rfl | assumption); (case h2 => walk_at "vw"); (case h3 => rfl); (try dsimp only [List.set_cons_zero, List.set_cons_succ, Int.reduceToNat]))
  | ((with_reducible refine' setix_sl ?h1 ?h2 ?h3 ?_); (case h1 => rfl); (case h2 => walk_at "vw"); (case h3 => first | rfl | assumption); (try dsimp only [List.set_cons_zero, List.set_cons_succ, Int.reduceToNat]))
  | ((with_reducible refine' mu_ce ?h1 ?h2 ?_); (case h1 => first | rfl | assumption); (case h2 => walk_at "op"); (try dsimp only [List.set_cons_zero, List.set_cons_succ, Int.reduceToNat]))
  | ((with_reducible refine' mu_sl ?h1 ?h2 ?_); (case h1 => rfl); (case h2 => walk_at "op"); (try dsimp only [List.set_cons_zero, List.set_cons_succ, Int.reduceToNat]))
  | ((with_reducible refine' me_of ?h1 ?h2 ?h3 ?_); (case h1 => walk_at "vw"); (case h2 => rfl); (case h3 => walk_at "op"))
  | ((with_reducible refine' isi_of ?h1 ?h2 ?_); (case h1 => walk_at "vw"); (case h2 => rfl))
  | ((with_reducible refine' fld_of ?h1 ?h2 ?h3 ?_); (case h1 => walk_at "vw"); (case h2 => first | rfl | decide +kernel); (case h3 => rfl))
  | ((with_reducible refine' sl_of ?h1 ?h2 ?_); (case h1 => walk_at "vw"); (case h2 => walk_at "op"))
  | ((with_reducible refine' int_of ?h1 ?_); (case h1 => walk_at "vw"))
  | ((with_reducible refine' truu_of ?h1 ?h2 ?_); (case h1 => walk_at "vw"); (case h2 => rfl))
  | ((with_reducible refine' asgT_of ?h1 ?h2 ?_); (case h1 => walk_at "vw"); (case h2 => rfl); (try dsimp only [List.set_cons_zero, List.set_cons_succ, Int.reduceToNat]))
  | ((with_reducible refine And.intro ?h1 ?_); (case h1 => first | rfl | exact Nat.le_of_ble_eq_true rfl))
  | (with_reducible refine tr_T ?_) | (with_reducible refine tr_F ?_) | (with_reducible refine bt_T ?_) | (with_reducible refine bt_F ?_)
  | ((with_reducible refine tr_yes ?h1 ?_); case h1 => first | rfl | assumption) | ((with_reducible refine tr_no ?h1 ?_); case h1 => first | rfl | assumption)
  | ((with_reducible refine bt_yes ?h1 ?_); case h1 => first | rfl | assumption) | ((with_reducible refine bt_no ?h1 ?_); case h1 => first | rfl | assumption))
local macro_rules | `(tactic| walk_at "go") => `(tactic| repeat (walk_at "one"))
local macro_rules | `(tactic| walk_at "start") => `(tactic| dsimp only [List.map_cons, List.map_nil, List.length_cons, List.length_nil, Nat.reduceAdd, Nat.reduceSub, List.replicate, List.cons_append, List.nil_append])
local macro_rules | `(tactic| walk_at "gos") => `(tactic| repeat ((fail_if_success (with_reducible refine is_ite ?_)); walk_at "one"))
local macro_rules | `(tactic| walk_at "norm") => `(tactic| simp only [List.set_cons_zero, List.set_cons_succ, List.map_cons, List.map_nil, List.cons_append, List.nil_append, Stt.put])
local macro_rules | `(tactic| walk_at "op") => `(tactic| first | exact len_ints | exact ix_ints (by omega))
theorem s_number (n : Nat) (i : Int) (cs : List Cell) {Q : D → List Cell → Prop} {E : Exc → List Cell → Prop} (q : Q (.bl true) cs) : Rs (semT tb (n + 1) 3 [.int i] cs) Q E := by
  refine rs_go (P := pgT tb (semT tb n)) (np := 1) (N := 1) (ir := ir3) ?_
  walk_at "start"
  unfold ir3
  walk_at "go"
  exact q
theorem eq_int {i : Int} : gCmp .Eq (.int i) (.int i) = some true := by simp [gCmp, gEq]
theorem eq_str {i : Str} : gCmp .Eq (.str i) (.str i) = some true := by simp [gCmp, gEq]
theorem s_same_int (n : Nat) (i : Int) (cs : List Cell) {Q : D → List Cell → Prop} {E : Exc → List Cell → Prop} (q : Q (.bl true) cs) : Rs (semT tb (n + 2) 4 [.int i, .int i] cs) Q E := by
  refine rs_go (P := pgT tb (semT tb (n + 1))) (np := 2) (N := 3) (ir := ir4) ?_
  walk_at "start"
  unfold ir4
  walk_at "go"
  refine s_number n i _ ?_
  walk_at "go"
  simpa using q
theorem s_same_str (n : Nat) (i : Str) (cs : List Cell) {Q : D → List Cell → Prop} {E : Exc → List Cell → Prop} (q : Q (.bl true) cs) : Rs (semT tb (n + 2) 4 [.str i, .str i] cs) Q E := by
  refine rs_go (P := pgT tb (semT tb (n + 1))) (np := 2) (N := 3) (ir := ir4) ?_
  walk_at "start"
  unfold ir4
  walk_at "go"
  simpa using q
/-- numbers and texts -/
def Fl : D → Prop
  | .int _ => True
  | .str _ => True
  | _ => False
theorem s_same_fl (n : Nat) (d : D) (h : Fl d) (cs : List Cell) {Q : D → List Cell → Prop} {E : Exc → List Cell → Prop} (q : Q (.bl true) cs) : Rs (semT tb (n + 2) 4 [d, d] cs) Q E := by
  cases d with
  | int i => exact s_same_int n i cs q
  | str i => exact s_same_str n i cs q
  | _ => exact h.elim
theorem rng_eq (n : Nat) : rngD 0 (n : Int) = (List.range n).map fun (k : Nat) => D.int (k : Int) := by
  simp [rngD]
theorem range_drop (m : Nat) : ∀ (k : Nat), (List.range m).drop k = if h : k < m then k :: (List.range m).drop (k + 1) else [] := by
  intro k
  split
  · next h => rw [List.drop_eq_getElem_cons (by simpa using h)]; simp
  · next h => simp; omega
theorem ix_tup {ds : List D} {i : Nat} (h : i < ds.length) : gIx (.tup ds) (.int (i : Int)) = some (.sh ds[i]) := by
  simp only [gIx, atI, ixN]
  rw [if_pos (by omega), if_pos (by omega)]
  simp [h]
theorem ix_lst {ds : List D} {i : Nat} (h : i < ds.length) : gIx (.lst ds) (.int (i : Int)) = some (.sh ds[i]) := by
  simp only [gIx, atI, ixN]
  rw [if_pos (by omega), if_pos (by omega)]
  simp [h]
/-- a loop over range(m) by its number -/
theorem for_rng {P : Pg} {E : Exc → Stt → Prop} {Q : Flow' → Stt → Prop} {i m : Nat} {body : Stt → Out Flow'} (I : Nat → Stt → Prop) (step : ∀ k st, k < m → I k st → Wp (body (st.put i (.sh (.int (k : Int))))) (Turn Q (I (k + 1))) E) (fin : ∀ st, I m st → Q .nx st) (st : Stt) (h : I 0 st) : Wp (forF i body (rngD 0 (m : Int)) st) Q E := by
  rw [rng_eq]
  refine wp_forF (fun xs st => ∃ k, k ≤ m ∧ xs = ((List.range m).drop k).map (fun (k : Nat) => D.int (k : Int)) ∧ I k st) (fun x xs st h => ?_) (fun st h => ?_) _ st ⟨0, Nat.zero_le _, by simp, h⟩
  · obtain ⟨k, hk, e, hI⟩ := h
    rw [range_drop] at e
    split at e
    · next hk2 =>
      rw [List.map_cons] at e
      obtain ⟨rfl, rfl⟩ := List.cons.inj e
      refine (step k st hk2 hI).mono (fun fl s h => ?_) fun _ _ x => x
      cases fl with
      | nx => exact ⟨k + 1, hk2, rfl, h⟩
      | ct => exact ⟨k + 1, hk2, rfl, h⟩
      | bk => exact h
      | rt d => exact h
    · cases e
  · obtain ⟨k, hk, e, hI⟩ := h
    have : k = m := by
      have := congrArg List.length e
      simp at this
      omega
    subst this
    exact fin st hI
theorem cmp_ne_int {i : Int} : gCmp .NotEq (.int i) (.int i) = some false := by simp [gCmp, gEq]
theorem rng1_it {m : Nat} (h : m < 4611686018427387904) (db : D) : iterD .rng1 (.int (m : Int)) db = some (rngD 0 (m : Int)) := by
  simp only [iterD]
  rw [if_pos (by omega)]
theorem s_same_tup (n : Nat) (ds : List D) (h : ∀ d ∈ ds, Fl d) (hl : ds.length ≤ 1000) (cs : List Cell) {Q : D → List Cell → Prop} {E : Exc → List Cell → Prop} (q : Q (.bl true) cs) : Rs (semT tb (n + 3) 4 [.tup ds, .tup ds] cs) Q E := by
  refine rs_go (P := pgT tb (semT tb (n + 2))) (np := 2) (N := 3) (ir := ir4) ?_
  walk_at "start"
  unfold ir4
  walk_at "go"
  refine tr_no (by simp) ?_
  walk_at "go"
  refine ⟨_, rng1_it (by omega) _, ?_⟩
  refine for_rng (P := pgT tb (semT tb (n + 2))) (fun k st => ∃ sl, st = ⟨[.sh (.tup ds), .sh (.tup ds), sl], cs⟩) (fun k st hk ⟨sl, e⟩ => ?_) (fun st ⟨sl, e⟩ => ?_) _ ⟨.no, rfl⟩
  · subst e
    walk_at "go"
    refine two_of rfl rfl (ix_tup hk) ?_
    walk_at "go"
    refine two_of rfl rfl (ix_tup hk) ?_
    walk_at "go"
    refine s_same_fl n _ (h _ (List.getElem_mem hk)) _ ?_
    walk_at "go"
    exact ⟨_, rfl⟩
  · subst e
    walk_at "go"
    exact q
theorem s_same_lst (n : Nat) (ds : List D) (h : ∀ d ∈ ds, Fl d) (hl : ds.length ≤ 1000) (cs : List Cell) {Q : D → List Cell → Prop} {E : Exc → List Cell → Prop} (q : Q (.bl true) cs) : Rs (semT tb (n + 3) 4 [.lst ds, .lst ds] cs) Q E := by
  refine rs_go (P := pgT tb (semT tb (n + 2))) (np := 2) (N := 3) (ir := ir4) ?_
  walk_at "start"
  unfold ir4
  walk_at "go"
  refine tr_no (by simp) ?_
  walk_at "go"
  refine ⟨_, rng1_it (by omega) _, ?_⟩
  refine for_rng (P := pgT tb (semT tb (n + 2))) (fun k st => ∃ sl, st = ⟨[.sh (.lst ds), .sh (.lst ds), sl], cs⟩) (fun k st hk ⟨sl, e⟩ => ?_) (fun st ⟨sl, e⟩ => ?_) _ ⟨.no, rfl⟩
  · subst e
    walk_at "go"
    refine two_of rfl rfl (ix_lst hk) ?_
    walk_at "go"
    refine two_of rfl rfl (ix_lst hk) ?_
    walk_at "go"
    refine s_same_fl n _ (h _ (List.getElem_mem hk)) _ ?_
    walk_at "go"
    exact ⟨_, rfl⟩
  · subst e
    walk_at "go"
    exact q
end K86
end
section
set_option maxHeartbeats 1000000
namespace K86
open PySem L2 Lit
local macro_rules | `(tactic| walk_at "vw") => `(tactic| first | rfl | exact view_own (by assumption) | exact view_ownI (by assumption))
local macro_rules | `(tactic| walk_at "op") => `(tactic| first
  | rfl
  | exact mul_r (by first | rfl | exact small_of (by omega))
  | exact mod_r (by omega)
  | exact fdiv_r (by omega)
  | exact add_s (by assumption)
  | exact len_s (by omega)
  | exact str_i (by omega)
  | exact append_g (by omega))
local macro_rules | `(tactic| walk_at "one") => `(tactic| first
  | (with_reducible refine wp_cons ?_) | (with_reducible refine wp_ite ?_) | (with_reducible refine wp_asg ?_) | (with_reducible refine wp_ret ?_) | (with_reducible refine wp_ex ?_) | (with_reducible refine wp_nil ?_)
  | (with_reducible refine wp_bin ?_) | (with_reducible refine wp_cmp ?_) | (with_reducible refine wp_k ?_) | (with_reducible refine wp_ix ?_) | (with_reducible refine wp_bi ?_) | (with_reducible refine wp_not ?_)
  | ((with_reducible refine' wp_v ?h1 ?_); case h1 => rfl) | ((with_reducible refine' wp_vm ?h1 ?_); case h1 => rfl) | ((with_reducible refine' wp_g ?h1 ?_); case h1 => rfl)
  | (with_reducible refine wp_call ?_) | (with_reducible refine sem_call ?_) | (with_reducible refine sem_mk ?_) | (with_reducible refine wp_evc ?_) | (with_reducible refine wp_evc0 ?_) | (with_reducible refine wp_evs ?_) | (with_reducible refine wp_evs0 ?_)
  | (with_reducible refine wp_and ?_) | (with_reducible refine wp_or ?_) | (with_reducible refine wp_andc ?_) | (with_reducible refine wp_orc ?_) | (with_reducible refine wp_and1 ?_) | (with_reducible refine wp_or1 ?_)
  | (with_reducible refine mid_nx ?_) | (with_reducible refine mid_rt ?_) | (with_reducible refine nxt_nx ?_) | (with_reducible refine nxt_rt ?_) | (with_reducible refine fin_rt ?_) | (with_reducible refine fin_nx ?_)
  | (with_reducible refine cap_sh ?_) | (with_reducible refine cap_fr ?_) | ((with_reducible refine' cap_rf ?h1 ?_); case h1 => rfl)
  | ((with_reducible refine asg_sh ?h1 ?_); (case h1 => exact Nat.le_of_ble_eq_true rfl); (try dsimp only [List.set_cons_zero, List.set_cons_succ, Int.reduceToNat])) | ((with_reducible refine asg_fr ?h1 ?_); (case h1 => exact Nat.le_of_ble_eq_true rfl); (try dsimp only [List.set_cons_zero, List.set_cons_succ, Int.reduceToNat]))
  | ((with_reducible refine' two_of ?h1 ?h2 ?h3 ?_); (case h1 => walk_at "vw"); (case h2 => walk_at "vw"); (case h3 => walk_at "op"))
  | ((with_reducible refine' cm_of ?h1 ?h2 ?h3 ?_); (case h1 => walk_at "vw"); (case h2 => walk_at "vw"); (case h3 => walk_at "op"))
  | ((with_reducible refine' bi_of ?h1 ?h2 ?_); (case h1 => walk_at "vw"); (case h2 => walk_at "op"))
  | ((with_reducible refine' not_of ?h1 ?h2 ?_); (case h1 => walk_at "vw"); (case h2 => rfl))
  | (with_reducible refine wp_tup ?_) | (with_reducible refine wp_lst ?_) | (with_reducible refine wp_chn ?_) | (with_reducible refine wp_setix ?_) | (with_reducible refine wp_no ?_) | (with_reducible refine wp_for ?_) | (with_reducible refine wp_lc ?_) | (with_reducible refine wp_isi ?_) | (with_reducible refine wp_ret0 ?_) | (with_reducible refine wp_conds0 ?_) | (with_reducible refine wp_conds ?_)
  | (with_reducible refine turn_nx ?_) | (with_reducible refine turn_rt ?_) | (with_reducible refine turn_bk ?_) | (with_reducible refine turn_ct ?_) | (with_reducible refine wp_me ?_) | (with_reducible refine wp_mu ?_) | (with_reducible refine wp_fld ?_) | (with_reducible refine wp_sl0 ?_) | (with_reducible refine wp_part0 ?_) | (with_reducible refine wp_part rfl ?_) | (with_reducible refine wp_raise ?_) | (with_reducible refine wp_ife ?_) | (with_reducible refine wp_neg ?_) | (with_reducible refine wp_lrng ?_) | (with_reducible refine wp_inv ?_) | (with_reducible refine wp_con ?_) | (with_reducible refine wp_cell ?_)
  | ((with_reducible refine' setix_ce ?h1 ?h2 ?h3 ?_); (case h1 => first | rfl | assumption); (case h2 => walk_at "vw"); (case h3 => rfl); (try dsimp only [List.set_cons_zero, List.set_cons_succ, Int.reduceToNat]))
  | ((with_reducible refine' setix_sl ?h1 ?h2 ?h3 ?_); (case h1 => rfl); (case h2 => walk_at "vw"); (case h3 => first | rfl | assumption); (try dsimp only [List.set_cons_zero, List.set_cons_succ, Int.reduceToNat]))
  | ((with_reducible refine' mu_ce ?h1 ?h2 ?_); (case h1 => first | rfl | assumption); (case h2 => walk_at "op"); (try dsimp only [List.set_cons_zero, List.set_cons_succ, Int.reduceToNat]))
  | ((with_reducible refine' mu_sl ?h1 ?h2 ?_); (case h1 => rfl); (case h2 => walk_at "op"); (try dsimp only [List.set_cons_zero, List.set_cons_succ, Int.reduceToNat]))
  | ((with_reducible refine' me_of ?h1 ?h2 ?h3 ?_); (case h1 => walk_at "vw"); (case h2 => rfl); (case h3 => walk_at "op"))
  | ((with_reducible refine' isi_of ?h1 ?h2 ?_); (case h1 => walk_at "vw"); (case h2 => rfl))
  | ((with_reducible refine' fld_of ?h1 ?h2 ?h3 ?_); (case h1 => walk_at "vw"); (case h2 => first | rfl | decide +kernel); (case h3 => rfl))
  | ((with_reducible refine' sl_of ?h1 ?h2 ?_); (case h1 => walk_at "vw"); (case h2 => walk_at "op"))
  | ((with_reducible refine' int_of ?h1 ?_); (case h1 => walk_at "vw"))
  | ((with_reducible refine' truu_of ?h1 ?h2 ?_); (case h1 => walk_at "vw"); (case h2 => rfl))
  | ((with_reducible refine' asgT_of ?h1 ?h2 ?_); (case h1 => walk_at "vw"); (case h2 => rfl); (try dsimp only [List.set_cons_zero, List.set_cons_succ, Int.reduceToNat]))
  | ((with_reducible refine And.intro ?h1 ?_); (case h1 => first | rfl | exact Nat.le_of_ble_eq_true rfl))
  | (with_reducible refine tr_T ?_) | (with_reducible refine tr_F ?_) | (with_reducible refine bt_T ?_) | (with_reducible refine bt_F ?_)
  | ((with_reducible refine tr_yes ?h1 ?_); case h1 => first | rfl | assumption) | ((with_reducible refine tr_no ?h1 ?_); case h1 => first | rfl | assumption)
  | ((with_reducible refine bt_yes ?h1 ?_); case h1 => first | rfl | assumption) | ((with_reducible refine bt_no ?h1 ?_); case h1 => first | rfl | assumption))
local macro_rules | `(tactic| walk_at "go") => `(tactic| repeat (walk_at "one"))
local macro_rules | `(tactic| walk_at "start") => `(tactic| dsimp only [List.map_cons, List.map_nil, List.length_cons, List.length_nil, Nat.reduceAdd, Nat.reduceSub, List.replicate, List.cons_append, List.nil_append])
local macro_rules | `(tactic| walk_at "gos") => `(tactic| repeat ((fail_if_success (with_reducible refine is_ite ?_)); walk_at "one"))
local macro_rules | `(tactic| walk_at "norm") => `(tactic| simp only [List.set_cons_zero, List.set_cons_succ, List.map_cons, List.map_nil, List.cons_append, List.nil_append, Stt.put])
local macro_rules | `(tactic| walk_at "op") => `(tactic| first | exact len_ints | exact ix_ints (by omega))
theorem len_l {ds : List D} : gBi .len [.lst ds] = some (.sh (.int ds.length)) := by simp [gBi]
theorem s_pick (n : Nat) (ds : List D) (h0 : ds ≠ []) (hl : ds.length ≤ 1000) (c : Cell) (rest : List Cell) (hc : SrcP c) {Q : D → List Cell → Prop} {E : Exc → List Cell → Prop} (q : ∀ d c', d ∈ ds → SrcP c' → Q d (c' :: rest)) : Rs (semT tb (n + 3) 5 [.own 0, .lst ds] (c :: rest)) Q E := by
  have hp : 0 < ds.length := List.length_pos_iff.mpr h0
  refine rs_go (P := pgT tb (semT tb (n + 2))) (np := 2) (N := 2) (ir := ir5) ?_
  walk_at "start"
  unfold ir5
  walk_at "go"
  refine s_draw n _ c rest (by omega) hc fun r c' h1 h2 hc' => ?_
  obtain ⟨k, rfl⟩ := Int.eq_ofNat_of_zero_le h1
  have hk : k < ds.length := by omega
  refine two_of rfl rfl (ix_lst hk) ?_
  walk_at "go"
  exact q _ _ (List.getElem_mem hk) hc'
theorem map_erase {α β : Type} (f : α → β) : ∀ (l : List α) (i : Nat), (l.map f).eraseIdx i = (l.eraseIdx i).map f
  | [], _ => by simp
  | a :: l, 0 => rfl
  | a :: l, i + 1 => by simp [List.eraseIdx, map_erase f l i]
theorem perm_erase {α : Type} : ∀ (l : List α) (i : Nat) (h : i < l.length), (l[i] :: l.eraseIdx i).Perm l
  | [], _, h => by simp at h
  | a :: l, 0, _ => by simp
  | a :: l, i + 1, h => by
    have := perm_erase l i (by simpa using h)
    simp only [List.getElem_cons_succ, List.eraseIdx_cons_succ]
    exact (List.Perm.swap _ _ _).trans (this.cons a)
theorem pop_ints {l : List Int} {i : Nat} (h : i < l.length) (h2 : l.length ≤ 1000) : gMu .popAt (l.map .int) [.int (i : Int)] = some (.int l[i], (l.eraseIdx i).map .int) := by
  have e : ixN (l.map D.int).length (i : Int) = some i := by
    simp only [ixN, List.length_map]
    rw [if_pos (by omega), if_pos (by omega)]
    simp
  simp only [gMu, e]
  rw [if_pos (by omega)]
  have e2 : (l.map D.int)[i]? = some (.int l[i]) := by simp [h]
  rw [e2]
  simp [map_erase]
theorem perm_pop {l o xs : List Int} {i : Nat} (h : i < l.length) (p : (l ++ o).Perm xs) : (l.eraseIdx i ++ (o ++ [l[i]])).Perm xs := by
  refine List.Perm.trans ?_ p
  have h1 : (l[i] :: l.eraseIdx i).Perm l := perm_erase l i h
  have h2 : (l.eraseIdx i ++ (o ++ [l[i]])).Perm (l[i] :: (l.eraseIdx i ++ o)) := by
    rw [← List.append_assoc]
    exact List.perm_append_comm
  exact h2.trans (List.Perm.append_right o h1)
theorem s_shuf (n : Nat) (xs : List Int) (hl : xs.length ≤ 1000) (c : Cell) (rest : List Cell) (hc : SrcP c) {Q : D → List Cell → Prop} {E : Exc → List Cell → Prop} (q : ∀ (ys : List Int) (c' : Cell), ys.Perm xs → SrcP c' → Q (.lst (ys.map .int)) (c' :: rest)) : Rs (semT tb (n + 3) 6 [.own 0, .lst (xs.map .int)] (c :: rest)) Q E := by
  refine rs_go (P := pgT tb (semT tb (n + 2))) (np := 2) (N := 5) (ir := ir6) ?_
  walk_at "start"
  unfold ir6
  walk_at "go"
  refine ⟨_, rng1_it (by omega) _, ?_⟩
  refine for_rng (P := pgT tb (semT tb (n + 2))) (fun k st => ∃ (l o : List Int) (c' : Cell) (sl : Sl), st = ⟨[.sh (.own 0), .sh (.lst (xs.map .int)), .mu (l.map .int), .mu (o.map .int), sl], c' :: rest⟩ ∧ (l ++ o).Perm xs ∧ l.length + k = xs.length ∧ SrcP c') (fun k st hk h => ?_) (fun st h => ?_) _ ⟨xs, [], c, .no, rfl, by simp, by simp, hc⟩
  · obtain ⟨l, o, c', sl, rfl, hp, hln, hc'⟩ := h
    walk_at "go"
    refine s_draw n _ c' rest (by omega) hc' fun r c2 h1 h2 hc2 => ?_
    obtain ⟨i, rfl⟩ := Int.eq_ofNat_of_zero_le h1
    have hi : i < l.length := by omega
    have hol : o.length ≤ 1000 := by have := hp.length_eq; simp at this; omega
    walk_at "go"
    refine mu_sl rfl (pop_ints hi (by omega)) ?_
    walk_at "go"
    refine mu_sl rfl (append_g (by rw [List.length_map]; omega)) ?_
    walk_at "go"
    exact ⟨l.eraseIdx i, o ++ [l[i]], c2, .sh (.int (k : Int)), by simp [Stt.put], perm_pop hi hp, by rw [List.length_eraseIdx_of_lt hi]; omega, hc2⟩
  · obtain ⟨l, o, c', sl, rfl, hp, hln, hc'⟩ := h
    have : l = [] := List.length_eq_zero_iff.mp (by omega)
    subst this
    walk_at "go"
    exact q o c' (by simpa using hp) hc'
theorem lrng_eq (m : Nat) : rngD 0 (m : Int) = ((List.range m).map fun (k : Nat) => (k : Int)).map D.int := by
  rw [rng_eq]; simp
theorem cut_ints {xs : List Int} {k : Nat} (h : k ≤ xs.length) : cutD (xs.map .int) none (some (k : Int)) = (xs.take k).map .int := by
  simp only [cutD]
  have e1 : HT.sIx (xs.map D.int).length 0 none = 0 := rfl
  have e2 : HT.sIx (xs.map D.int).length (xs.map D.int).length (some (k : Int)) = k := by
    rw [List.length_map, HT.sIx_nat]
    omega
  rw [e1, e2]
  simp [List.map_take]
theorem s_group (n m : Nat) (hm : 2 ≤ m ∧ m ≤ 100) (c : Cell) (rest : List Cell) (hc : SrcP c) {Q : D → List Cell → Prop} {E : Exc → List Cell → Prop} (q : ∀ (ys : List Int) (c' : Cell), ys.Nodup → (∀ y ∈ ys, 0 ≤ y ∧ y < m) → 2 ≤ ys.length → SrcP c' → Q (.lst (ys.map .int)) (c' :: rest)) : Rs (semT tb (n + 4) 7 [.own 0, .int (m : Int)] (c :: rest)) Q E := by
  refine rs_go (P := pgT tb (semT tb (n + 3))) (np := 2) (N := 3) (ir := ir7) ?_
  walk_at "start"
  unfold ir7
  walk_at "go"
  refine ⟨by omega, by omega, ?_⟩
  rw [lrng_eq]
  walk_at "go"
  have hnd : ((List.range m).map fun (k : Nat) => (k : Int)).Nodup := by
    unfold List.Nodup
    rw [List.pairwise_map]
    exact List.nodup_range.imp fun h e => h (by omega)
  refine s_shuf n ((List.range m).map fun (k : Nat) => (k : Int)) (by simp; omega) c rest hc fun ys c' hp hc' => ?_
  have hyl : ys.length = m := by have := hp.length_eq; simpa using this
  walk_at "go"
  refine s_draw (n + 1) _ c' rest (by omega) hc' fun r c2 h1 h2 hc2 => ?_
  obtain ⟨i, rfl⟩ := Int.eq_ofNat_of_zero_le h1
  walk_at "go"
  rw [show ((2 : Int) + (i : Int)) = ((2 + i : Nat) : Int) by omega, cut_ints (by omega)]
  refine q (ys.take (2 + i)) c2 ((hp.nodup_iff.mpr hnd).sublist (List.take_sublist _ _)) (fun y hy => ?_) (by rw [List.length_take]; omega) hc2
  have := hp.mem_iff.mp (List.mem_of_mem_take hy)
  obtain ⟨k, hk, rfl⟩ := List.mem_map.mp this
  have := List.mem_range.mp hk
  omega
theorem s_menu (n : Nat) (g : List Int) (kind : Int) (hg : g ≠ []) (hl : g.length ≤ 100) (hn : g.Nodup) (c : Cell) (rest : List Cell) (hc : SrcP c) {Q : D → List Cell → Prop} {E : Exc → List Cell → Prop} (q : ∀ (ys : List Int) (c' : Cell), ys.Nodup → (∀ y ∈ ys, y ∈ g) → ys ≠ [] → SrcP c' → Q (.lst (ys.map .int)) (c' :: rest)) : Rs (semT tb (n + 4) 8 [.own 0, .lst (g.map .int), .int kind] (c :: rest)) Q E := by
  have hgp : 0 < g.length := List.length_pos_iff.mpr hg
  refine rs_go (P := pgT tb (semT tb (n + 3))) (np := 3) (N := 3) (ir := ir8) ?_
  walk_at "start"
  unfold ir8
  walk_at "go"
  refine tr_dec (fun h0 => ?_) fun h0 => ?_
  · walk_at "go"
    exact q g c hn (fun _ h => h) hg hc
  · walk_at "go"
    refine tr_dec (fun h1 => ?_) fun h1 => ?_
    · walk_at "go"
      refine s_pick n (g.map .int) (by simpa using hg) (by rw [List.length_map]; omega) c rest hc fun d c' hd hc' => ?_
      obtain ⟨v, hv, rfl⟩ := List.mem_map.mp hd
      walk_at "go"
      exact q [v] c' (by simp) (fun y hy => by rw [List.mem_singleton.mp hy]; exact hv) (by simp) hc'
    · walk_at "go"
      refine s_shuf n g (by omega) c rest hc fun ys c' hp hc' => ?_
      have hyl : ys.length = g.length := hp.length_eq
      walk_at "go"
      refine s_draw (n + 1) _ c' rest (by omega) hc' fun r c2 h1 h2 hc2 => ?_
      obtain ⟨i, rfl⟩ := Int.eq_ofNat_of_zero_le h1
      walk_at "go"
      rw [show ((1 : Int) + (i : Int)) = ((1 + i : Nat) : Int) by omega, cut_ints (by omega)]
      refine q (ys.take (1 + i)) c2 ((hp.nodup_iff.mpr hn).sublist (List.take_sublist _ _)) (fun y hy => hp.mem_iff.mp (List.mem_of_mem_take hy)) (fun e => ?_) hc2
      have := congrArg List.length e
      rw [List.length_take, List.length_nil] at this
      omega
theorem s_cost (n : Nat) (c : Cell) (rest : List Cell) (hc : SrcP c) {Q : D → List Cell → Prop} {E : Exc → List Cell → Prop} (q : ∀ (p : Int) (c' : Cell), 0 ≤ p → p ≤ 1000000000 → SrcP c' → Q (.int p) (c' :: rest)) : Rs (semT tb (n + 3) 9 [.own 0] (c :: rest)) Q E := by
  refine rs_go (P := pgT tb (semT tb (n + 2))) (np := 1) (N := 2) (ir := ir9) ?_
  walk_at "start"
  unfold ir9
  walk_at "go"
  refine s_draw n _ c rest (by decide) hc fun r c' h1 h2 hc' => ?_
  walk_at "go"
  refine tr_dec (fun h0 => ?_) fun h0 => ?_
  · walk_at "go"
    exact q 0 c' (by decide) (by decide) hc'
  · walk_at "go"
    refine tr_dec (fun h0 => ?_) fun h0 => ?_
    · walk_at "go"
      refine s_draw n _ c' rest (by decide) hc' fun r c2 h1 h2 hc2 => ?_
      walk_at "go"
      refine q _ c2 ?_ ?_ hc2
      · show 0 ≤ (10 : Int) ^ (9 : Nat) - r
        omega
      · show (10 : Int) ^ (9 : Nat) - r ≤ 1000000000
        omega
    · walk_at "go"
      refine tr_dec (fun h0 => ?_) fun h0 => ?_
      · walk_at "go"
        refine s_draw n _ c' rest (by decide) hc' fun r c2 h1 h2 hc2 => ?_
        walk_at "go"
        exact q _ c2 (by omega) (by omega) hc2
      · walk_at "go"
        refine s_draw n _ c' rest (by decide) hc' fun r c2 h1 h2 hc2 => ?_
        walk_at "go"
        refine q _ c2 h1 ?_ hc2
        have h2 : r < (10 : Int) ^ (9 : Nat) + 1 := h2
        omega
/-- a lot's row -/
structure RowP (g m : List Int) (p : Int) : Prop where
  gn : g.Nodup
  gr : ∀ y ∈ g, 0 ≤ y ∧ y < 12
  gl : 2 ≤ g.length
  mn : m.Nodup
  ms : ∀ y ∈ m, y ∈ g
  m0 : m ≠ []
  p0 : 0 ≤ p
  p1 : p ≤ 1000000000
def rowD (g m : List Int) (p : Int) : D := .tup [.lst (g.map .int), .lst (m.map .int), .int p]
theorem nodup_nat : ∀ (k : Nat) (g : List Nat), g.Nodup → (∀ x ∈ g, x < k) → g.length ≤ k
  | 0, g, _, r => by
    cases g with
    | nil => simp
    | cons a l => exact absurd (r a (by simp)) (by omega)
  | k + 1, g, h, r => by
    by_cases hk : k ∈ g
    · have h1 := nodup_nat k (g.erase k) (h.erase k) fun x hx => by
        have := r x (List.mem_of_mem_erase hx)
        have hne : x ≠ k := fun e => by
          rw [e] at hx
          exact absurd hx (List.Nodup.not_mem_erase h)
        omega
      rw [List.length_erase_of_mem hk] at h1
      omega
    · have h1 := nodup_nat k g h fun x hx => by
        have := r x hx
        have hne : x ≠ k := fun e => hk (e ▸ hx)
        omega
      omega
theorem nodup_len {g : List Int} {k : Nat} (h : g.Nodup) (r : ∀ y ∈ g, 0 ≤ y ∧ y < (k : Int)) : g.length ≤ k := by
  have h1 : (g.map Int.toNat).Nodup := by
    unfold List.Nodup at *
    rw [List.pairwise_map]
    refine List.Pairwise.imp_of_mem (fun {a b} ha hb hn e => hn ?_) h
    have := r a ha
    have := r b hb
    omega
  have h3 := nodup_nat k _ h1 fun x hx => by
    obtain ⟨y, hy, rfl⟩ := List.mem_map.mp hx
    have := r y hy
    omega
  simpa using h3
theorem s_row (n m : Nat) (free : Bool) (hm : 2 ≤ m ∧ m ≤ 12) (c : Cell) (rest : List Cell) (hc : SrcP c) {Q : D → List Cell → Prop} {E : Exc → List Cell → Prop} (q : ∀ (g mm : List Int) (p : Int) (c' : Cell), RowP g mm p → SrcP c' → Q (rowD g mm p) (c' :: rest)) : Rs (semT tb (n + 5) 10 [.own 0, .int (m : Int), .bl free] (c :: rest)) Q E := by
  refine rs_go (P := pgT tb (semT tb (n + 4))) (np := 3) (N := 5) (ir := ir10) ?_
  walk_at "start"
  unfold ir10
  walk_at "go"
  refine s_group n m (by omega) c rest hc fun g c1 hgn hgr hgl hc1 => ?_
  have hlen : g.length ≤ 100 := by have := nodup_len hgn hgr; omega
  have h0 : g ≠ [] := fun e => by rw [e] at hgl; simp at hgl
  walk_at "gos"
  refine wp_mid (fun st => ∃ (k : Int) (c' : Cell), SrcP c' ∧ st = ⟨[.sh (.own 0), .sh (.int (m : Int)), .sh (.bl free), .sh (.lst (g.map .int)), .sh (.int k)], c' :: rest⟩) ?_ fun st hst => ?_
  · walk_at "go"
    refine tr_not (fun h0 => ?_) fun h0 => ?_
    · walk_at "go"
      refine s_draw (n + 2) _ c1 rest (by decide) hc1 fun r c2 h1 h2 hc2 => ?_
      walk_at "go"
      exact ⟨_, c2, hc2, rfl⟩
    · walk_at "go"
      exact ⟨_, c1, hc1, rfl⟩
  · obtain ⟨k, c', hc', rfl⟩ := hst
    walk_at "go"
    refine s_menu n g k h0 hlen hgn c' rest hc' fun mm c2 hmn hms hm0 hc2 => ?_
    walk_at "go"
    refine s_cost (n + 1) c2 rest hc2 fun p c3 hp0 hp1 hc3 => ?_
    walk_at "go"
    exact q g mm p c3 ⟨hgn, fun y hy => ⟨(hgr y hy).1, by have := (hgr y hy).2; omega⟩, hgl, hmn, hms, hm0, hp0, hp1⟩ hc3
theorem s_great (n : Nat) (c : Cell) (rest : List Cell) (hc : SrcP c) {Q : D → List Cell → Prop} {E : Exc → List Cell → Prop} (q : ∀ (a : Nat) (c' : Cell), a < 10 ^ 30 → SrcP c' → Q (.int (a : Int)) (c' :: rest)) : Rs (semT tb (n + 4) 16 [.own 0] (c :: rest)) Q E := by
  have q' : ∀ (a : Int) (c' : Cell), 0 ≤ a → a < 1000000000000000000000000000000 → SrcP c' → Q (.int a) (c' :: rest) := fun a c' h1 h2 hc' => by
    obtain ⟨k, rfl⟩ := Int.eq_ofNat_of_zero_le h1
    exact q k c' (by omega) hc'
  refine rs_go (P := pgT tb (semT tb (n + 3))) (np := 1) (N := 2) (ir := ir16) ?_
  walk_at "start"
  unfold ir16
  walk_at "go"
  refine s_draw (n + 1) _ c rest (by decide) hc fun r c' h1 h2 hc' => ?_
  walk_at "go"
  refine tr_dec (fun h0 => ?_) fun h0 => ?_
  · walk_at "go"
    refine s_draw (n + 1) _ c' rest (by decide) hc' fun r c2 h1 h2 hc2 => ?_
    walk_at "go"
    exact q' _ c2 h1 (by omega) hc2
  · walk_at "go"
    refine tr_dec (fun h0 => ?_) fun h0 => ?_
    · walk_at "go"
      refine s_draw (n + 1) _ c' rest (by decide) hc' fun r c2 h1 h2 hc2 => ?_
      walk_at "go"
      refine q' _ c2 ?_ ?_ hc2
      · show 0 ≤ (10 : Int) ^ (30 : Nat) - 1 - r
        omega
      · show (10 : Int) ^ (30 : Nat) - 1 - r < _
        omega
    · walk_at "go"
      refine s_pick n _ (by simp) (by decide) c' rest hc' fun d c2 hd hc2 => ?_
      have hd : ∃ v : Int, d = .int v ∧ 0 < v ∧ v ≤ 1000000000000000000000000000000 := by
        simp only [List.mem_cons, List.not_mem_nil, or_false] at hd
        rcases hd with rfl | rfl | rfl | rfl | rfl | rfl | rfl
        · exact ⟨_, rfl, by decide, by decide⟩
        · exact ⟨_, rfl, by decide, by decide⟩
        · exact ⟨_, rfl, by decide, by decide⟩
        · exact ⟨_, rfl, by decide, by decide⟩
        · exact ⟨_, rfl, by decide, by decide⟩
        · exact ⟨_, rfl, by decide, by decide⟩
        · exact ⟨_, rfl, by decide, by decide⟩
      obtain ⟨v, rfl, hv0, hv1⟩ := hd
      walk_at "go"
      refine s_draw (n + 1) _ c2 rest (by omega) hc2 fun r c3 h1 h2 hc3 => ?_
      walk_at "go"
      exact q' _ c3 h1 (by omega) hc3
end K86
end
section
set_option maxHeartbeats 1000000
namespace K86
open PySem L2 Lit
local macro_rules | `(tactic| walk_at "vw") => `(tactic| first | rfl | exact view_own (by assumption) | exact view_ownI (by assumption))
local macro_rules | `(tactic| walk_at "op") => `(tactic| first
  | rfl
  | exact mul_r (by first | rfl | exact small_of (by omega))
  | exact mod_r (by omega)
  | exact fdiv_r (by omega)
  | exact add_s (by assumption)
  | exact len_s (by omega)
  | exact str_i (by omega)
  | exact append_g (by omega))
local macro_rules | `(tactic| walk_at "one") => `(tactic| first
  | (with_reducible refine wp_cons ?_) | (with_reducible refine wp_ite ?_) | (with_reducible refine wp_asg ?_) | (with_reducible refine wp_ret ?_) | (with_reducible refine wp_ex ?_) | (with_reducible refine wp_nil ?_)
  | (with_reducible refine wp_bin ?_) | (with_reducible refine wp_cmp ?_) | (with_reducible refine wp_k ?_) | (with_reducible refine wp_ix ?_) | (with_reducible refine wp_bi ?_) | (with_reducible refine wp_not ?_)
  | ((with_reducible refine' wp_v ?h1 ?_); case h1 => rfl) | ((with_reducible refine' wp_vm ?h1 ?_); case h1 => rfl) | ((with_reducible refine' wp_g ?h1 ?_); case h1 => rfl)
  | (with_reducible refine wp_call ?_) | (with_reducible refine sem_call ?_) | (with_reducible refine sem_mk ?_) | (with_reducible refine wp_evc ?_) | (with_reducible refine wp_evc0 ?_) | (with_reducible refine wp_evs ?_) | (with_reducible refine wp_evs0 ?_)
  | (with_reducible refine wp_and ?_) | (with_reducible refine wp_or ?_) | (with_reducible refine wp_andc ?_) | (with_reducible refine wp_orc ?_) | (with_reducible refine wp_and1 ?_) | (with_reducible refine wp_or1 ?_)
  | (with_reducible refine mid_nx ?_) | (with_reducible refine mid_rt ?_) | (with_reducible refine nxt_nx ?_) | (with_reducible refine nxt_rt ?_) | (with_reducible refine fin_rt ?_) | (with_reducible refine fin_nx ?_)
  | (with_reducible refine cap_sh ?_) | (with_reducible refine cap_fr ?_) | ((with_reducible refine' cap_rf ?h1 ?_); case h1 => rfl)
  | ((with_reducible refine asg_sh ?h1 ?_); (case h1 => exact Nat.le_of_ble_eq_true rfl); (try dsimp only [List.set_cons_zero, List.set_cons_succ, Int.reduceToNat])) | ((with_reducible refine asg_fr ?h1 ?_); (case h1 => exact Nat.le_of_ble_eq_true rfl); (try dsimp only [List.set_cons_zero, List.set_cons_succ, Int.reduceToNat]))
  | ((with_reducible refine' two_of ?h1 ?h2 ?h3 ?_); (case h1 => walk_at "vw"); (case h2 => walk_at "vw"); (case h3 => walk_at "op"))
  | ((with_reducible refine' cm_of ?h1 ?h2 ?h3 ?_); (case h1 => walk_at "vw"); (case h2 => walk_at "vw"); (case h3 => walk_at "op"))
  | ((with_reducible refine' bi_of ?h1 ?h2 ?_); (case h1 => walk_at "vw"); (case h2 => walk_at "op"))
  | ((with_reducible refine' not_of ?h1 ?h2 ?_); (case h1 => walk_at "vw"); (case h2 => rfl))
  | (with_reducible refine wp_tup ?_) | (with_reducible refine wp_lst ?_) | (with_reducible refine wp_chn ?_) | (with_reducible refine wp_setix ?_) | (with_reducible refine wp_no ?_) | (with_reducible refine wp_for ?_) | (with_reducible refine wp_lc ?_) | (with_reducible refine wp_isi ?_) | (with_reducible refine wp_ret0 ?_) | (with_reducible refine wp_conds0 ?_) | (with_reducible refine wp_conds ?_)
  | (with_reducible refine turn_nx ?_) | (with_reducible refine turn_rt ?_) | (with_reducible refine turn_bk ?_) | (with_reducible refine turn_ct ?_) | (with_reducible refine wp_me ?_) | (with_reducible refine wp_mu ?_) | (with_reducible refine wp_fld ?_) | (with_reducible refine wp_sl0 ?_) | (with_reducible refine wp_part0 ?_) | (with_reducible refine wp_part rfl ?_) | (with_reducible refine wp_raise ?_) | (with_reducible refine wp_ife ?_) | (with_reducible refine wp_neg ?_) | (with_reducible refine wp_lrng ?_) | (with_reducible refine wp_inv ?_) | (with_reducible refine wp_con ?_) | (with_reducible refine wp_cell ?_)
  | ((with_reducible refine' setix_ce ?h1 ?h2 ?h3 ?_); (case h1 => first | rfl | assumption); (case h2 => walk_at "vw"); (case h3 => rfl); (try dsimp only [List.set_cons_zero, List.set_cons_succ, Int.reduceToNat]))
  | ((with_reducible refine' setix_sl ?h1 ?h2 ?h3 ?_); (case h1 => rfl); (case h2 => walk_at "vw"); (case h3 => first | rfl | assumption); (try dsimp only [List.set_cons_zero, List.set_cons_succ, Int.reduceToNat]))
  | ((with_reducible refine' mu_ce ?h1 ?h2 ?_); (case h1 => first | rfl | assumption); (case h2 => walk_at "op"); (try dsimp only [List.set_cons_zero, List.set_cons_succ, Int.reduceToNat]))
  | ((with_reducible refine' mu_sl ?h1 ?h2 ?_); (case h1 => rfl); (case h2 => walk_at "op"); (try dsimp only [List.set_cons_zero, List.set_cons_succ, Int.reduceToNat]))
  | ((with_reducible refine' me_of ?h1 ?h2 ?h3 ?_); (case h1 => walk_at "vw"); (case h2 => rfl); (case h3 => walk_at "op"))
  | ((with_reducible refine' isi_of ?h1 ?h2 ?_); (case h1 => walk_at "vw"); (case h2 => rfl))
  | ((with_reducible refine' fld_of ?h1 ?h2 ?h3 ?_); (case h1 => walk_at "vw"); (case h2 => first | rfl | decide +kernel); (case h3 => rfl))
  | ((with_reducible refine' sl_of ?h1 ?h2 ?_); (case h1 => walk_at "vw"); (case h2 => walk_at "op"))
  | ((with_reducible refine' int_of ?h1 ?_); (case h1 => walk_at "vw"))
  | ((with_reducible refine' truu_of ?h1 ?h2 ?_); (case h1 => walk_at "vw"); (case h2 => rfl))
  | ((with_reducible refine' asgT_of ?h1 ?h2 ?_); (case h1 => walk_at "vw"); (case h2 => rfl); (try dsimp only [List.set_cons_zero, List.set_cons_succ, Int.reduceToNat]))
  | ((with_reducible refine And.intro ?h1 ?_); (case h1 => first | rfl | exact Nat.le_of_ble_eq_true rfl))
  | (with_reducible refine tr_T ?_) | (with_reducible refine tr_F ?_) | (with_reducible refine bt_T ?_) | (with_reducible refine bt_F ?_)
  | ((with_reducible refine tr_yes ?h1 ?_); case h1 => first | rfl | assumption) | ((with_reducible refine tr_no ?h1 ?_); case h1 => first | rfl | assumption)
  | ((with_reducible refine bt_yes ?h1 ?_); case h1 => first | rfl | assumption) | ((with_reducible refine bt_no ?h1 ?_); case h1 => first | rfl | assumption))
local macro_rules | `(tactic| walk_at "go") => `(tactic| repeat (walk_at "one"))
local macro_rules | `(tactic| walk_at "start") => `(tactic| dsimp only [List.map_cons, List.map_nil, List.length_cons, List.length_nil, Nat.reduceAdd, Nat.reduceSub, List.replicate, List.cons_append, List.nil_append])
local macro_rules | `(tactic| walk_at "gos") => `(tactic| repeat ((fail_if_success (with_reducible refine is_ite ?_)); walk_at "one"))
local macro_rules | `(tactic| walk_at "norm") => `(tactic| simp only [List.set_cons_zero, List.set_cons_succ, List.map_cons, List.map_nil, List.cons_append, List.nil_append, Stt.put])
local macro_rules | `(tactic| walk_at "op") => `(tactic| first | exact len_ints | exact ix_ints (by omega))
abbrev sI (i : Int) : Str := (toString i : String)
abbrev sp : Str := " "
theorem sI_len {i : Int} {k : Nat} (hk : 0 < k) (h0 : 0 ≤ i) (h : i < 10 ^ k) : (sI i).length ≤ k := by
  obtain ⟨n, rfl⟩ := Int.eq_ofNat_of_zero_le h0
  rw [TL.len_tl, TL.tl_num]
  refine TL.numL_len hk ?_
  have : ((n : Int)) < ((10 ^ k : Nat) : Int) := by
    have e : ((10 ^ k : Nat) : Int) = (10 : Int) ^ k := by simp
    rw [e]; exact h
  omega
theorem join_len {ws : List Str} {b n : Nat} (h : ∀ w ∈ ws, w.length ≤ b) (hn : ws.length ≤ n) : (ws.map (·.length)).sum + ws.length * sp.length ≤ n * (b + 1) := by
  have e : sp.length = 1 := by decide +kernel
  rw [e]
  have h1 : ∀ (ws : List Str), (∀ w ∈ ws, w.length ≤ b) → (ws.map (·.length)).sum ≤ ws.length * b := by
    intro ws
    induction ws with
    | nil => intro _; simp
    | cons w r ih =>
      intro h
      have := ih fun w hw => h w (List.mem_cons_of_mem _ hw)
      have := h w (by simp)
      simp only [List.map_cons, List.sum_cons, List.length_cons, Nat.succ_mul]
      omega
  have h2 := h1 ws h
  have h3 : ws.length * b ≤ n * b := Nat.mul_le_mul hn (Nat.le_refl _)
  rw [Nat.mul_add]
  omega
theorem join_le {ws : List Str} {b n : Nat} (h : ∀ w ∈ ws, w.length ≤ b) (hn : ws.length ≤ n) : (Txt.join sp ws).length ≤ n * (b + 1) := by
  rw [TL.join_eq]
  exact Nat.le_trans (StrLaws.join_length_le sp ws) (join_len h hn)
theorem strs_of (ws : List Str) : strsOf (ws.map .str) = some ws := by
  induction ws with
  | nil => rfl
  | cons w r ih => simp [strsOf, ih]
theorem ints_of (ws : List Int) : intsOf (ws.map .int) = some ws := by
  induction ws with
  | nil => rfl
  | cons w r ih => simp [intsOf, ih]
theorem join_g {ws : List Str} (h : (ws.map (·.length)).sum + ws.length * sp.length ≤ 16777216) : gMe .join (.str sp) [.lst (ws.map .str)] = some (.sh (.str (Txt.join sp ws))) := by
  simp only [gMe, strs_of]
  rw [if_pos h]
theorem sorted_g {xs : List Int} : gBi .sorted [.lst (xs.map .int)] = some (.fr ((isort xs).map .int)) := by
  simp [gBi, ints_of]
theorem lay_ints (xs : List Int) : PyData.canLayAll0 (xs.map .int) = true ∧ PyData.depthAll (xs.map .int) = 0 := by
  induction xs with
  | nil => exact ⟨rfl, rfl⟩
  | cons x r ih => exact ⟨by simp [PyData.canLayAll0, PyData.canLay0, ih.1], by simp [PyData.depthAll, PyData.depth, ih.2]⟩
theorem toPs_ints (xs : List Int) : toPs (xs.map .int) = some (xs.map .int) := by
  induction xs with
  | nil => rfl
  | cons x r ih => simp [toPs, toP, ih]
theorem eqv_ints : ∀ (a b : List Int), PyData.eqvAll (a.map .int) (b.map .int) = decide (a = b)
  | [], [] => rfl
  | [], _ :: _ => by simp [PyData.eqvAll]
  | _ :: _, [] => by simp [PyData.eqvAll]
  | x :: a, y :: b => by
    simp only [List.map_cons, PyData.eqvAll, PyData.eqv, eqv_ints a b]
    by_cases h1 : x = y <;> by_cases h2 : a = b <;> simp [h1, h2]
theorem eq_ints {a b : List Int} : gCmp .Eq (.lst (a.map .int)) (.lst (b.map .int)) = some (decide (a = b)) := by
  have s : ∀ a : List Int, SeqAt.shaped (.list (a.map .int)) = true := fun a => by
    simp [SeqAt.shaped, PyData.canLay0, PyData.depth, lay_ints a]
  simp only [gCmp, gEq, toP, toPs_ints, Option.map_some, s, Bool.and_self, if_true, PyData.eqv, eqv_ints]
theorem ne_ints {a b : List Int} : gCmp .NotEq (.lst (a.map .int)) (.lst (b.map .int)) = some (!decide (a = b)) := by
  have := eq_ints (a := a) (b := b)
  simp only [gCmp] at this ⊢
  rw [this]; rfl
theorem eqt_ints {a b : List Int} : gCmp .Eq (.tup (a.map .int)) (.tup (b.map .int)) = some (decide (a = b)) := by
  have s : ∀ a : List Int, SeqAt.shaped (.tuple (a.map .int)) = true := fun a => by
    simp [SeqAt.shaped, PyData.canLay0, PyData.depth, lay_ints a]
  simp only [gCmp, gEq, toP, toPs_ints, Option.map_some, s, Bool.and_self, if_true, PyData.eqv, eqv_ints]
theorem net_ints {a b : List Int} : gCmp .NotEq (.tup (a.map .int)) (.tup (b.map .int)) = some (!decide (a = b)) := by
  have := eqt_ints (a := a) (b := b)
  simp only [gCmp] at this ⊢
  rw [this]; rfl
theorem ins1_perm (i : Int) : ∀ xs, (ins1 i xs).Perm (i :: xs)
  | [] => List.Perm.refl _
  | j :: r => by
    simp only [ins1]
    split
    · exact List.Perm.refl _
    · exact ((ins1_perm i r).cons j).trans (List.Perm.swap _ _ _)
theorem isort_perm : ∀ xs, (isort xs).Perm xs
  | [] => List.Perm.refl _
  | i :: r => (ins1_perm i (isort r)).trans ((isort_perm r).cons i)
theorem ins1_sorted (i : Int) : ∀ xs, List.Pairwise (· ≤ ·) xs → List.Pairwise (· ≤ ·) (ins1 i xs)
  | [], _ => by simp [ins1]
  | j :: r, h => by
    simp only [ins1]
    split
    · next hij =>
      refine List.Pairwise.cons (fun x hx => ?_) h
      rcases List.mem_cons.mp hx with rfl | hx
      · exact hij
      · have := List.rel_of_pairwise_cons h hx
        omega
    · next hij =>
      obtain ⟨h1, h2⟩ := List.pairwise_cons.mp h
      refine List.Pairwise.cons (fun x hx => ?_) (ins1_sorted i r h2)
      rcases List.mem_cons.mp ((ins1_perm i r).mem_iff.mp hx) with rfl | hx
      · omega
      · exact h1 x hx
theorem isort_sorted : ∀ xs, List.Pairwise (· ≤ ·) (isort xs)
  | [] => List.Pairwise.nil
  | i :: r => ins1_sorted i _ (isort_sorted r)
theorem sort_uniq : ∀ {a b : List Int}, a.Perm b → List.Pairwise (· ≤ ·) a → List.Pairwise (· ≤ ·) b → a = b
  | [], b, p, _, _ => (List.Perm.nil_eq p)
  | x :: a, [], p, _, _ => absurd p.symm (by simp)
  | x :: a, y :: b, p, h1, h2 => by
    obtain ⟨a1, a2⟩ := List.pairwise_cons.mp h1
    obtain ⟨b1, b2⟩ := List.pairwise_cons.mp h2
    have e : x = y := by
      have hx : x ∈ y :: b := p.mem_iff.mp (by simp)
      have hy : y ∈ x :: a := p.mem_iff.mpr (by simp)
      rcases List.mem_cons.mp hx with rfl | hx
      · rfl
      · rcases List.mem_cons.mp hy with rfl | hy
        · rfl
        · have := a1 y hy
          have := b1 x hx
          omega
    subst e
    rw [sort_uniq ((List.perm_cons _).mp p) a2 b2]
theorem isort_id {a : List Int} (h : List.Pairwise (· ≤ ·) a) : isort a = a := sort_uniq (isort_perm a) (isort_sorted a) h
/-- a lot's text -/
def lotText (g m : List Int) (p : Int) : Str :=
  let t1 := Txt.join sp ((isort g).map sI)
  let t2 := if isort m = isort g then t1 else t1 ++ " heads " ++ Txt.join sp ((isort m).map sI)
  if p = 0 then t2 else t2 ++ " price " ++ sI p
local macro_rules | `(tactic| walk_at "op") => `(tactic| first | exact sorted_g | exact ne_ints | exact eq_ints | exact net_ints | exact eqt_ints)
local macro_rules | `(tactic| walk_at "vw") => `(tactic| (show cellV _ _ = some _; assumption))
theorem str_lens {xs : List Int} (h : ∀ x ∈ xs, 0 ≤ x ∧ x < 12) : ∀ w ∈ xs.map sI, w.length ≤ 2 := by
  intro w hw
  obtain ⟨x, hx, rfl⟩ := List.mem_map.mp hw
  exact sI_len (by decide) (h x hx).1 (by have := (h x hx).2; omega)
theorem abs_small {xs : List Int} (h : ∀ x ∈ xs, 0 ≤ x ∧ x < 12) : ∀ x ∈ xs, x.natAbs < 2 ^ 1900 := fun x hx => by
  have h1 := h x hx
  have : x.natAbs < 12 := by omega
  exact Nat.lt_of_lt_of_le this (by decide +kernel)
theorem RowP.mr {g m : List Int} {p : Int} (h : RowP g m p) : ∀ y ∈ m, 0 ≤ y ∧ y < 12 := fun y hy => h.gr y (h.ms y hy)
theorem isort_r {xs : List Int} (h : ∀ x ∈ xs, 0 ≤ x ∧ x < 12) : ∀ x ∈ isort xs, 0 ≤ x ∧ x < 12 := fun x hx => h x ((isort_perm xs).mem_iff.mp hx)
theorem RowP.gl2 {g m : List Int} {p : Int} (h : RowP g m p) : g.length ≤ 12 := nodup_len h.gn h.gr
theorem RowP.ml2 {g m : List Int} {p : Int} (h : RowP g m p) : m.length ≤ 12 := nodup_len h.mn h.mr
theorem pl_len {xs : List Int} (h : ∀ x ∈ xs, 0 ≤ x ∧ x < 12) (hl : xs.length ≤ 12) : (Txt.join sp (xs.map sI)).length ≤ 36 ∧ ((xs.map sI).map (·.length)).sum + (xs.map sI).length * sp.length ≤ 16777216 := by
  have h1 := join_le (n := 12) (str_lens h) (by simpa using hl)
  have h2 := join_len (n := 12) (str_lens h) (by simpa using hl)
  omega
theorem len_heads : (" heads " : Str).length = 7 := by decide +kernel
theorem len_price : (" price " : Str).length = 7 := by decide +kernel
theorem s_lottext (n : Nat) (dg dm : D) (g m : List Int) (p : Int) (cs : List Cell) (hg : cellV cs dg = some (.lst (g.map .int))) (hm : cellV cs dm = some (.lst (m.map .int))) (h : RowP g m p) {Q : D → List Cell → Prop} {E : Exc → List Cell → Prop} (q : (lotText g m p).length ≤ 200 → Q (.str (lotText g m p)) cs) : Rs (semT tb (n + 1) 11 [.tup [dg, dm, .int p]] cs) Q E := by
  obtain ⟨g1, g2⟩ := pl_len (isort_r h.gr) (by rw [(isort_perm g).length_eq]; exact h.gl2)
  obtain ⟨m1, m2⟩ := pl_len (isort_r h.mr) (by rw [(isort_perm m).length_eq]; exact h.ml2)
  have gl := h.gl2
  have ml := h.ml2
  have p1 : (sI p).length ≤ 10 := sI_len (by decide) h.p0 (by have := h.p1; omega)
  have pa : p.natAbs < 2 ^ 1900 := by
    have := h.p0
    have := h.p1
    have : p.natAbs < 1000000001 := by omega
    exact Nat.lt_of_lt_of_le this (by decide +kernel)
  refine rs_go (P := pgT tb (semT tb n)) (np := 1) (N := 5) (ir := ir11) ?_
  walk_at "start"
  unfold ir11
  walk_at "gos"
  refine lc_str (xs := isort g) rfl rfl rfl (by rw [(isort_perm g).length_eq]; omega) (abs_small (isort_r h.gr)) ?_
  walk_at "gos"
  refine me_of rfl rfl (join_g g2) ?_
  walk_at "gos"
  walk_at "norm"
  refine wp_mid (fun st => ∃ sl1 sl2 sl4, st = ⟨[.sh (.tup [dg, dm, .int p]), sl1, sl2, .sh (.str (if isort m = isort g then Txt.join sp ((isort g).map sI) else Txt.join sp ((isort g).map sI) ++ " heads " ++ Txt.join sp ((isort m).map sI))), sl4], cs⟩) ?_ fun st hst => ?_
  · walk_at "go"
    refine tr_ndec (fun h0 => ?_) fun h0 => ?_
    · walk_at "go"
      refine two_of rfl rfl (add_s (x := Txt.join sp ((isort g).map sI)) (by rw [len_heads]; omega)) ?_
      walk_at "go"
      refine lc_str (xs := isort m) rfl rfl rfl (by rw [(isort_perm m).length_eq]; omega) (abs_small (isort_r h.mr)) ?_
      walk_at "go"
      refine me_of rfl rfl (join_g m2) ?_
      walk_at "go"
      refine two_of rfl rfl (add_s (x := Txt.join sp ((isort g).map sI) ++ " heads ") (y := Txt.join sp ((isort m).map sI)) (by rw [Str.length_append, len_heads]; omega)) ?_
      walk_at "go"
      rw [if_neg h0]
      exact ⟨_, _, _, rfl⟩
    · walk_at "go"
      rw [if_pos h0]
      exact ⟨_, _, _, rfl⟩
  · obtain ⟨sl1, sl2, sl4, rfl⟩ := hst
    have hl2 : (if isort m = isort g then Txt.join sp ((isort g).map sI) else Txt.join sp ((isort g).map sI) ++ " heads " ++ Txt.join sp ((isort m).map sI)).length ≤ 100 := by
      split
      · omega
      · rw [Str.length_append, Str.length_append, len_heads]; omega
    unfold lotText at q
    simp only at q
    generalize (if isort m = isort g then Txt.join sp ((isort g).map sI) else Txt.join sp ((isort g).map sI) ++ " heads " ++ Txt.join sp ((isort m).map sI)) = t2 at hl2 q ⊢
    walk_at "go"
    refine tr_ndec (fun h0 => ?_) fun h0 => ?_
    · walk_at "go"
      refine two_of rfl rfl (add_s (x := t2) (by rw [len_price]; omega)) ?_
      walk_at "go"
      refine two_of rfl rfl (add_s (x := t2 ++ " price ") (y := sI p) (by rw [Str.length_append, len_price]; omega)) ?_
      walk_at "go"
      rw [if_neg h0] at q
      exact q (by rw [Str.length_append, Str.length_append, len_price]; omega)
    · walk_at "go"
      rw [if_pos h0] at q
      exact q (by omega)
theorem cut_lst {ds : List D} {k : Nat} (h : k ≤ ds.length) : cutD ds none (some (k : Int)) = ds.take k := by
  simp only [cutD]
  have e1 : HT.sIx ds.length 0 none = 0 := rfl
  have e2 : HT.sIx ds.length ds.length (some (k : Int)) = k := by
    rw [HT.sIx_nat]
    omega
  rw [e1, e2]
  simp
theorem in_ints {v : Int} {xs : List Int} : gCmp .In (.int v) (.lst (xs.map .int)) = some (decide (v ∈ xs)) := by
  have h1 : (xs.map D.int).all isFlat = true := by simp [isFlat]
  have h2 : ((xs.map D.int).any fun y => eqFl y (.int v)) = decide (v ∈ xs) := by
    induction xs with
    | nil => rfl
    | cons x r ih =>
      simp only [List.map_cons, List.any_cons]
      rw [ih (by simp [isFlat])]
      by_cases e : x = v
      · subst e; simp [eqFl]
      · have e' : ¬ v = x := fun z => e z.symm
        simp [eqFl, e, e']
  simp only [gCmp, gIn]
  rw [if_pos (by rw [h1]; rfl), h2]
theorem nin_ints {v : Int} {xs : List Int} : gCmp .NotIn (.int v) (.lst (xs.map .int)) = some (!decide (v ∈ xs)) := by
  have := in_ints (v := v) (xs := xs)
  simp only [gCmp] at this ⊢
  rw [this]; rfl
theorem nodup_by {xs : List Int} : xs.Nodup ↔ ∀ k (h : k < xs.length), xs[k] ∉ xs.take k := by
  unfold List.Nodup
  rw [List.pairwise_iff_getElem]
  constructor
  · intro h k hk hm
    obtain ⟨i, hi, e⟩ := List.mem_iff_getElem.mp hm
    have hi' : i < k := by simp at hi; omega
    rw [List.getElem_take] at e
    exact h i k (by omega) hk hi' e
  · intro h i j hi hj hij e
    refine h j hj (List.mem_iff_getElem.mpr ⟨i, by simp; omega, ?_⟩)
    rw [List.getElem_take]; exact e
local macro_rules | `(tactic| walk_at "op") => `(tactic| first | exact in_ints | exact nin_ints)
theorem s_alldiff (n : Nat) (d : D) (xs : List Int) (cs : List Cell) (hd : cellV cs d = some (.lst (xs.map .int))) (hl : xs.length ≤ 100000) {Q : D → List Cell → Prop} {E : Exc → List Cell → Prop} (q : Q (.bl (decide xs.Nodup)) cs) : Rs (semT tb (n + 1) 12 [d] cs) Q E := by
  refine rs_go (P := pgT tb (semT tb n)) (np := 1) (N := 2) (ir := ir12) ?_
  walk_at "start"
  unfold ir12
  walk_at "go"
  refine ⟨_, rng1_it (by omega) _, ?_⟩
  refine for_rng (P := pgT tb (semT tb n)) (fun k st => (∃ sl, st = ⟨[.sh d, sl], cs⟩) ∧ ∀ j (hj : j < xs.length), j < k → xs[j] ∉ xs.take j) (fun k st hk h => ?_) (fun st h => ?_) _ ⟨⟨.no, rfl⟩, fun j _ z => absurd z (by omega)⟩
  · obtain ⟨⟨sl, rfl⟩, hI⟩ := h
    walk_at "go"
    rw [cut_ints (by omega)]
    walk_at "go"
    refine tr_dec (fun h => ?_) fun h => ?_
    · walk_at "go"
      rw [decide_eq_false (fun hn => nodup_by.mp hn k hk h)] at q
      exact q
    · walk_at "go"
      refine ⟨⟨_, rfl⟩, fun j hj hjk => ?_⟩
      by_cases e : j = k
      · subst e; exact h
      · exact hI j hj (by omega)
  · obtain ⟨⟨sl, rfl⟩, hI⟩ := h
    walk_at "go"
    have : decide xs.Nodup = true := decide_eq_true (nodup_by.mpr fun k hk => hI k hk hk)
    rw [this] at q
    exact q
/-- a Lot -/
def lotD (m c : List Int) (p : Int) : D := .ins 0 [.tup ((isort m).map .int), .tup ((isort c).map .int), .int p]
def lotF (m c : List Int) (p : Int) : List (Str × D) := [("members", .tup ((isort m).map .int)), ("candidates", .tup ((isort c).map .int)), ("price", .int p)]
theorem tuple_l {ds : List D} : gBi .tuple [.lst ds] = some (.sh (.tup ds)) := by simp [gBi]
theorem ne_mc : ¬ (("members" : Str) = "candidates") := by decide +kernel
theorem ne_mp : ¬ (("members" : Str) = "price") := by decide +kernel
theorem ne_cp : ¬ (("candidates" : Str) = "price") := by decide +kernel
set_option maxHeartbeats 4000000 in
theorem s_lotinit (n k : Nat) (cs : List Cell) (hk : cs[k]? = some (.ins 0 [])) (ms cd : List Int) (dc : D) (p : Int) (hdc : dc = .non ∧ cd = ms ∨ dc = .lst (cd.map .int)) (hl : ms.length ≤ 100000) (hl2 : cd.length ≤ 100000) {Q : D → List Cell → Prop} {E : Exc → List Cell → Prop}
    (q : RowP ms cd p → Q .non (cs.set k (.ins 0 (lotF ms cd p)))) (e : ¬ RowP ms cd p → ∀ r, E ⟨1, [.str r]⟩ cs) : Rs (semT tb (n + 2) 20 [.own k, .lst (ms.map .int), dc, .int p] cs) Q E := by
  have hkl : k < cs.length := (List.getElem?_eq_some_iff.mp hk).1
  refine rs_go (P := pgT tb (semT tb (n + 1))) (np := 4) (N := 5) (ir := ir20) ?_
  walk_at "start"
  unfold ir20
  -- members
  refine wp_mid (fun st => st = ⟨[.sh (.own k), .sh (.lst (ms.map .int)), .sh dc, .sh (.int p), .no], cs⟩ ∧ 2 ≤ ms.length ∧ ms.Nodup) ?_ fun st hst => ?_
  · walk_at "go"
    refine bt_dec (fun h => ?_) fun h => ?_
    · walk_at "go"
      refine ⟨_, rfl, e (fun r => ?_) _⟩
      have := r.gl
      omega
    · walk_at "go"
      refine s_alldiff n _ ms cs rfl hl ?_
      walk_at "go"
      refine tr_ndec (fun h2 => ?_) fun h2 => ?_
      · walk_at "go"
        exact ⟨_, rfl, e (fun r => h2 r.gn) _⟩
      · walk_at "go"
        exact ⟨by omega, h2⟩
  obtain ⟨rfl, hm2, hmn⟩ := hst
  refine wp_mid (fun st => (∃ sl, st = ⟨[.sh (.own k), .sh (.lst (ms.map .int)), .sh dc, .sh (.int p), sl], cs⟩) ∧ ∀ y ∈ ms, 0 ≤ y ∧ y < 12) ?_ fun st hst => ?_
  · walk_at "go"
    refine ⟨_, rfl, ?_⟩
    refine for_map ms (fun pre st => (∃ sl, st = ⟨[.sh (.own k), .sh (.lst (ms.map .int)), .sh dc, .sh (.int p), sl], cs⟩) ∧ ∀ y ∈ pre, 0 ≤ y ∧ y < 12) (fun pre x post st hms hI => ?_) (fun st hI => hI) _ ⟨⟨_, rfl⟩, by simp⟩
    obtain ⟨⟨sl, rfl⟩, hI⟩ := hI
    have hx : x ∈ ms := by rw [hms]; simp
    walk_at "go"
    refine ⟨_, _, _, rfl, rfl, rfl, fun h => ?_, fun h => ?_⟩
    · walk_at "go"
      refine ⟨_, rfl, e (fun r => ?_) _⟩
      have := (r.gr x hx).1
      simp at h
      omega
    · walk_at "go"
      refine ⟨_, _, _, rfl, rfl, rfl, ?_⟩
      walk_at "go"
      refine tr_ndec (fun h2 => ?_) fun h2 => ?_
      · walk_at "go"
        refine ⟨_, rfl, e (fun r => ?_) _⟩
        have := (r.gr x hx).2
        omega
      · walk_at "go"
        refine ⟨⟨_, rfl⟩, fun y hy => ?_⟩
        rcases List.mem_append.mp hy with hy | hy
        · exact hI y hy
        · rw [List.mem_singleton.mp hy]
          simp at h
          exact ⟨h, h2⟩
  obtain ⟨⟨sl, rfl⟩, hmr⟩ := hst
  -- candidates
  refine wp_mid (fun st => ∃ sl, st = ⟨[.sh (.own k), .sh (.lst (ms.map .int)), .sh (.lst (cd.map .int)), .sh (.int p), sl], cs⟩) ?_ fun st hst => ?_
  · rcases hdc with ⟨rfl, rfl⟩ | rfl
    · walk_at "go"
      exact ⟨_, rfl⟩
    · walk_at "go"
      exact ⟨_, rfl⟩
  obtain ⟨sl, rfl⟩ := hst
  refine wp_mid (fun st => (∃ sl, st = ⟨[.sh (.own k), .sh (.lst (ms.map .int)), .sh (.lst (cd.map .int)), .sh (.int p), sl], cs⟩) ∧ cd ≠ [] ∧ cd.Nodup) ?_ fun st hst => ?_
  · walk_at "go"
    refine bt_dec (fun h => ?_) fun h => ?_
    · walk_at "go"
      refine ⟨_, rfl, e (fun r => ?_) _⟩
      have := List.length_pos_iff.mpr r.m0
      omega
    · walk_at "go"
      refine s_alldiff n _ cd cs rfl hl2 ?_
      walk_at "go"
      refine tr_ndec (fun h2 => ?_) fun h2 => ?_
      · walk_at "go"
        exact ⟨_, rfl, e (fun r => h2 r.mn) _⟩
      · walk_at "go"
        refine ⟨⟨_, rfl⟩, fun z => h ?_, h2⟩
        rw [z]; rfl
  obtain ⟨⟨sl, rfl⟩, hc0, hcn⟩ := hst
  refine wp_mid (fun st => (∃ sl, st = ⟨[.sh (.own k), .sh (.lst (ms.map .int)), .sh (.lst (cd.map .int)), .sh (.int p), sl], cs⟩) ∧ ∀ y ∈ cd, y ∈ ms) ?_ fun st hst => ?_
  · walk_at "go"
    refine ⟨_, rfl, ?_⟩
    refine for_map cd (fun pre st => (∃ sl, st = ⟨[.sh (.own k), .sh (.lst (ms.map .int)), .sh (.lst (cd.map .int)), .sh (.int p), sl], cs⟩) ∧ ∀ y ∈ pre, y ∈ ms) (fun pre x post st hms hI => ?_) (fun st hI => hI) _ ⟨⟨_, rfl⟩, by simp⟩
    obtain ⟨⟨sl, rfl⟩, hI⟩ := hI
    have hx : x ∈ cd := by rw [hms]; simp
    walk_at "go"
    refine tr_ndec (fun h2 => ?_) fun h2 => ?_
    · walk_at "go"
      exact ⟨_, rfl, e (fun r => h2 (r.ms x hx)) _⟩
    · walk_at "go"
      refine ⟨⟨_, rfl⟩, fun y hy => ?_⟩
      rcases List.mem_append.mp hy with hy | hy
      · exact hI y hy
      · rw [List.mem_singleton.mp hy]; exact h2
  obtain ⟨⟨sl, rfl⟩, hcm⟩ := hst
  refine wp_mid (fun st => (∃ sl, st = ⟨[.sh (.own k), .sh (.lst (ms.map .int)), .sh (.lst (cd.map .int)), .sh (.int p), sl], cs⟩) ∧ RowP ms cd p) ?_ fun st hst => ?_
  · walk_at "go"
    refine ⟨_, _, _, rfl, rfl, rfl, fun h => ?_, fun h => ?_⟩
    · walk_at "go"
      refine ⟨_, rfl, e (fun r => ?_) _⟩
      have := r.p0
      simp at h
      omega
    · walk_at "go"
      refine ⟨_, _, _, rfl, rfl, rfl, ?_⟩
      walk_at "go"
      refine tr_ndec (fun h2 => ?_) fun h2 => ?_
      · walk_at "go"
        exact ⟨_, rfl, e (fun r => h2 r.p1) _⟩
      · walk_at "go"
        simp at h
        exact ⟨⟨_, rfl⟩, hmn, hmr, hm2, hcn, hcm, hc0, h, h2⟩
  obtain ⟨⟨sl, rfl⟩, hR⟩ := hst
  refine wp_cons (wp_setf ?_)
  walk_at "go"
  refine setf_of hk (by decide) rfl ?_
  walk_at "go"
  refine wp_setf ?_
  walk_at "go"
  refine setf_of (fs := [("members", .tup ((isort ms).map .int))]) (c := 0) (by simp [putD, hkl, ne_mc, ne_mp, ne_cp]) (Nat.le_of_ble_eq_true rfl) rfl ?_
  walk_at "go"
  refine wp_setf ?_
  walk_at "go"
  refine setf_of (fs := [("members", .tup ((isort ms).map .int)), ("candidates", .tup ((isort cd).map .int))]) (c := 0) (by simp [putD, hkl, ne_mc, ne_mp, ne_cp]) (Nat.le_of_ble_eq_true rfl) rfl ?_
  walk_at "go"
  have := q hR
  simpa [lotF, putD, ne_mc, ne_mp, ne_cp] using this
end K86
end
section
set_option maxHeartbeats 1000000
namespace K86
open PySem L2 Lit
local macro_rules | `(tactic| walk_at "vw") => `(tactic| first | rfl | exact view_own (by assumption) | exact view_ownI (by assumption))
local macro_rules | `(tactic| walk_at "op") => `(tactic| first
  | rfl
  | exact mul_r (by first | rfl | exact small_of (by omega))
  | exact mod_r (by omega)
  | exact fdiv_r (by omega)
  | exact add_s (by assumption)
  | exact len_s (by omega)
  | exact str_i (by omega)
  | exact append_g (by omega))
local macro_rules | `(tactic| walk_at "one") => `(tactic| first
  | (with_reducible refine wp_cons ?_) | (with_reducible refine wp_ite ?_) | (with_reducible refine wp_asg ?_) | (with_reducible refine wp_ret ?_) | (with_reducible refine wp_ex ?_) | (with_reducible refine wp_nil ?_)
  | (with_reducible refine wp_bin ?_) | (with_reducible refine wp_cmp ?_) | (with_reducible refine wp_k ?_) | (with_reducible refine wp_ix ?_) | (with_reducible refine wp_bi ?_) | (with_reducible refine wp_not ?_)
  | ((with_reducible refine' wp_v ?h1 ?_); case h1 => rfl) | ((with_reducible refine' wp_vm ?h1 ?_); case h1 => rfl) | ((with_reducible refine' wp_g ?h1 ?_); case h1 => rfl)
  | (with_reducible refine wp_call ?_) | (with_reducible refine sem_call ?_) | (with_reducible refine sem_mk ?_) | (with_reducible refine wp_evc ?_) | (with_reducible refine wp_evc0 ?_) | (with_reducible refine wp_evs ?_) | (with_reducible refine wp_evs0 ?_)
  | (with_reducible refine wp_and ?_) | (with_reducible refine wp_or ?_) | (with_reducible refine wp_andc ?_) | (with_reducible refine wp_orc ?_) | (with_reducible refine wp_and1 ?_) | (with_reducible refine wp_or1 ?_)
  | (with_reducible refine mid_nx ?_) | (with_reducible refine mid_rt ?_) | (with_reducible refine nxt_nx ?_) | (with_reducible refine nxt_rt ?_) | (with_reducible refine fin_rt ?_) | (with_reducible refine fin_nx ?_)
  | (with_reducible refine cap_sh ?_) | (with_reducible refine cap_fr ?_) | ((with_reducible refine' cap_rf ?h1 ?_); case h1 => rfl)
  | ((with_reducible refine asg_sh ?h1 ?_); (case h1 => exact Nat.le_of_ble_eq_true rfl); (try dsimp only [List.set_cons_zero, List.set_cons_succ, Int.reduceToNat])) | ((with_reducible refine asg_fr ?h1 ?_); (case h1 => exact Nat.le_of_ble_eq_true rfl); (try dsimp only [List.set_cons_zero, List.set_cons_succ, Int.reduceToNat]))
  | ((with_reducible refine' two_of ?h1 ?h2 ?h3 ?_); (case h1 => walk_at "vw"); (case h2 => walk_at "vw"); (case h3 => walk_at "op"))
  | ((with_reducible refine' cm_of ?h1 ?h2 ?h3 ?_); (case h1 => walk_at "vw"); (case h2 => walk_at "vw"); (case h3 => walk_at "op"))
  | ((with_reducible refine' bi_of ?h1 ?h2 ?_); (case h1 => walk_at "vw"); (case h2 => walk_at "op"))
  | ((with_reducible refine' not_of ?h1 ?h2 ?_); (case h1 => walk_at "vw"); (case h2 => rfl))
  | (with_reducible refine wp_tup ?_) | (with_reducible refine wp_lst ?_) | (with_reducible refine wp_chn ?_) | (with_reducible refine wp_setix ?_) | (with_reducible refine wp_no ?_) | (with_reducible refine wp_for ?_) | (with_reducible refine wp_lc ?_) | (with_reducible refine wp_isi ?_) | (with_reducible refine wp_ret0 ?_) | (with_reducible refine wp_conds0 ?_) | (with_reducible refine wp_conds ?_)
  | (with_reducible refine turn_nx ?_) | (with_reducible refine turn_rt ?_) | (with_reducible refine turn_bk ?_) | (with_reducible refine turn_ct ?_) | (with_reducible refine wp_me ?_) | (with_reducible refine wp_mu ?_) | (with_reducible refine wp_fld ?_) | (with_reducible refine wp_sl0 ?_) | (with_reducible refine wp_part0 ?_) | (with_reducible refine wp_part rfl ?_) | (with_reducible refine wp_raise ?_) | (with_reducible refine wp_ife ?_) | (with_reducible refine wp_neg ?_) | (with_reducible refine wp_lrng ?_) | (with_reducible refine wp_inv ?_) | (with_reducible refine wp_con ?_) | (with_reducible refine wp_cell ?_)
  | ((with_reducible refine' setix_ce ?h1 ?h2 ?h3 ?_); (case h1 => first | rfl | assumption); (case h2 => walk_at "vw"); (case h3 => rfl); (try dsimp only [List.set_cons_zero, List.set_cons_succ, Int.reduceToNat]))
  | ((with_reducible refine' setix_sl ?h1 ?h2 ?h3 ?_); (case h1 => rfl); (case h2 => walk_at "vw"); (case h3 => first | rfl | assumption); (try dsimp only [List.set_cons_zero, List.set_cons_succ, Int.reduceToNat]))
  | ((with_reducible refine' mu_ce ?h1 ?h2 ?_); (case h1 => first | rfl | assumption); (case h2 => walk_at "op"); (try dsimp only [List.set_cons_zero, List.set_cons_succ, Int.reduceToNat]))
  | ((with_reducible refine' mu_sl ?h1 ?h2 ?_); (case h1 => rfl); (case h2 => walk_at "op"); (try dsimp only [List.set_cons_zero, List.set_cons_succ, Int.reduceToNat]))
  | ((with_reducible refine' me_of ?h1 ?h2 ?h3 ?_); (case h1 => walk_at "vw"); (case h2 => rfl); (case h3 => walk_at "op"))
  | ((with_reducible refine' isi_of ?h1 ?h2 ?_); (case h1 => walk_at "vw"); (case h2 => rfl))
  | ((with_reducible refine' fld_of ?h1 ?h2 ?h3 ?_); (case h1 => walk_at "vw"); (case h2 => first | rfl | decide +kernel); (case h3 => rfl))
  | ((with_reducible refine' sl_of ?h1 ?h2 ?_); (case h1 => walk_at "vw"); (case h2 => walk_at "op"))
  | ((with_reducible refine' int_of ?h1 ?_); (case h1 => walk_at "vw"))
  | ((with_reducible refine' truu_of ?h1 ?h2 ?_); (case h1 => walk_at "vw"); (case h2 => rfl))
  | ((with_reducible refine' asgT_of ?h1 ?h2 ?_); (case h1 => walk_at "vw"); (case h2 => rfl); (try dsimp only [List.set_cons_zero, List.set_cons_succ, Int.reduceToNat]))
  | ((with_reducible refine And.intro ?h1 ?_); (case h1 => first | rfl | exact Nat.le_of_ble_eq_true rfl))
  | (with_reducible refine tr_T ?_) | (with_reducible refine tr_F ?_) | (with_reducible refine bt_T ?_) | (with_reducible refine bt_F ?_)
  | ((with_reducible refine tr_yes ?h1 ?_); case h1 => first | rfl | assumption) | ((with_reducible refine tr_no ?h1 ?_); case h1 => first | rfl | assumption)
  | ((with_reducible refine bt_yes ?h1 ?_); case h1 => first | rfl | assumption) | ((with_reducible refine bt_no ?h1 ?_); case h1 => first | rfl | assumption))
local macro_rules | `(tactic| walk_at "go") => `(tactic| repeat (walk_at "one"))
local macro_rules | `(tactic| walk_at "start") => `(tactic| dsimp only [List.map_cons, List.map_nil, List.length_cons, List.length_nil, Nat.reduceAdd, Nat.reduceSub, List.replicate, List.cons_append, List.nil_append])
local macro_rules | `(tactic| walk_at "gos") => `(tactic| repeat ((fail_if_success (with_reducible refine is_ite ?_)); walk_at "one"))
local macro_rules | `(tactic| walk_at "norm") => `(tactic| simp only [List.set_cons_zero, List.set_cons_succ, List.map_cons, List.map_nil, List.cons_append, List.nil_append, Stt.put])
local macro_rules | `(tactic| walk_at "op") => `(tactic| first | exact len_ints | exact ix_ints (by omega))
local macro_rules | `(tactic| walk_at "op") => `(tactic| first | exact sorted_g | exact ne_ints | exact eq_ints | exact net_ints | exact eqt_ints)
local macro_rules | `(tactic| walk_at "vw") => `(tactic| (show cellV _ _ = some _; assumption))
local macro_rules | `(tactic| walk_at "op") => `(tactic| first | exact in_ints | exact nin_ints)
theorem mk_seal {P : Pg} {c : Nat} {cs : List Cell} {fs : List (Str × D)} {ds : List D} (hz : Zc0 cs) (hf : (fs.all fun p => low 0 p.2 && (P.fld c).contains p.1) = true) (hd : fldD fs (P.fld c) = some ds) :
    sealC P cs.length c ((cs ++ [Cell.ins c []]).set cs.length (Cell.ins c fs)) = some (D.ins c ds, cs) := by
  unfold sealC
  rw [if_pos (by simp)]
  have e1 : ((cs ++ [Cell.ins c []]).set cs.length (.ins c fs))[cs.length]? = some (.ins c fs) := by simp
  have e2 : ((cs ++ [Cell.ins c []]).set cs.length (.ins c fs)).take cs.length = cs := by
    rw [List.set_append_right _ _ (Nat.le_refl _)]
    simp
  have e3 : (fs.all fun p => low cs.length p.2 && (P.fld c).contains p.1) = true := by
    rw [List.all_eq_true] at hf ⊢
    intro p hp
    have := hf p hp
    simp only [Bool.and_eq_true] at this ⊢
    exact ⟨low_up _ _ this.1, this.2⟩
  rw [e1, e2]
  dsimp only
  rw [if_pos ⟨rfl, e3, hz.up _⟩, hd]
  rfl
theorem mk_any {n f c : Nat} {fs : List (Str × D)} {ds args : List D} {cs : List Cell} {Q : D → List Cell → Prop} {E' : Exc → List Cell → Prop}
    (hinit : ∀ (k : Nat) (cs : List Cell), cs[k]? = some (Cell.ins c []) → ∀ {Q : D → List Cell → Prop} {E : Exc → List Cell → Prop}, Q D.non (cs.set k (Cell.ins c fs)) → Rs (semT tb n f (D.own k :: args) cs) Q E)
    (hf : (fs.all fun p => low 0 p.2 && ((pgT tb (semT tb n)).fld c).contains p.1) = true) (hd : fldD fs ((pgT tb (semT tb n)).fld c) = some ds) (hz : Zc0 cs) (q : Q (.ins c ds) cs) :
    Rs (semT tb n f (.own cs.length :: args) (cs ++ [.ins c []])) (fun r cs2 => r = .non ∧ ∃ d cs', sealC (pgT tb (semT tb n)) cs.length c cs2 = some (d, cs') ∧ Q d cs') E' :=
  hinit cs.length _ (by simp) ⟨rfl, _, _, mk_seal hz hf hd, q⟩
theorem lotF_ok (n : Nat) (m c : List Int) (p : Int) : ((lotF m c p).all fun q => low 0 q.2 && ((pgT tb (semT tb n)).fld 0).contains q.1) = true := by
  have h1 : ∀ xs : List Int, lows 0 (xs.map .int) = true := lows_map fun a => by simp [low]
  have c1 : ((pgT tb (semT tb n)).fld 0).contains ("members" : Str) = true := rfl
  have c2 : ((pgT tb (semT tb n)).fld 0).contains ("candidates" : Str) = true := rfl
  have c3 : ((pgT tb (semT tb n)).fld 0).contains ("price" : Str) = true := rfl
  simp only [lotF, List.all_cons, List.all_nil, c1, c2, c3, low, h1, Bool.and_self]
theorem lotF_fld (n : Nat) (m c : List Int) (p : Int) : fldD (lotF m c p) ((pgT tb (semT tb n)).fld 0) = some [.tup ((isort m).map .int), .tup ((isort c).map .int), .int p] := rfl
theorem mk_lot {n : Nat} {cs : List Cell} {ms cd : List Int} {dc : D} {p : Int} {Q : D → List Cell → Prop} {E : Exc → List Cell → Prop} (hz : Zc0 cs) (hdc : dc = .non ∧ cd = ms ∨ dc = .lst (cd.map .int)) (hl : ms.length ≤ 100000) (hl2 : cd.length ≤ 100000)
    (q : RowP ms cd p → Q (lotD ms cd p) cs) (e : ¬ RowP ms cd p → ∀ r, E ⟨1, [.str r]⟩ cs) :
    Rs (semT tb (n + 2) 20 [.own cs.length, .lst (ms.map .int), dc, .int p] (cs ++ [.ins 0 []])) (fun r cs2 => r = .non ∧ ∃ d cs', sealC (pgT tb (semT tb (n + 2))) cs.length 0 cs2 = some (d, cs') ∧ Q d cs')
      (fun x cs2 => cs.length ≤ cs2.length ∧ (lows cs.length x.fs && (cs2.take cs.length).all (lowC cs.length)) = true ∧ E x (cs2.take cs.length)) := by
  refine s_lotinit n cs.length _ (by simp) ms cd dc p hdc hl hl2 (fun h => ?_) fun h r => ?_
  · exact ⟨rfl, _, _, mk_seal hz (lotF_ok _ _ _ _) (lotF_fld _ _ _ _), q h⟩
  · refine ⟨by simp, ?_, ?_⟩
    · have e2 : (cs ++ [Cell.ins 0 []]).take cs.length = cs := by simp
      rw [e2, hz.up]
      simp [lows, low]
    · have e2 : (cs ++ [Cell.ins 0 []]).take cs.length = cs := by simp
      rw [e2]
      exact e h r
theorem i26 (n k c : Nat) (d : D) (cs : List Cell) (hk : cs[k]? = some (.ins c [])) (hc : ((pgT tb (semT tb n)).fld c).contains ("serial" : Str) = true) {Q : D → List Cell → Prop} {E : Exc → List Cell → Prop} (q : Q .non (cs.set k (.ins c [("serial", d)]))) : Rs (semT tb (n + 1) 26 [.own k, d] cs) Q E := by
  refine rs_go (P := pgT tb (semT tb n)) (np := 2) (N := 2) (ir := ir26) ?_
  walk_at "start"
  unfold ir26
  refine wp_cons (wp_setf ?_)
  walk_at "go"
  refine setf_of hk (by decide) hc ?_
  walk_at "go"
  exact q
theorem i30 (n k c : Nat) (d : D) (cs : List Cell) (hk : cs[k]? = some (.ins c [])) (hc : ((pgT tb (semT tb n)).fld c).contains ("place" : Str) = true) {Q : D → List Cell → Prop} {E : Exc → List Cell → Prop} (q : Q .non (cs.set k (.ins c [("place", d)]))) : Rs (semT tb (n + 1) 30 [.own k, d] cs) Q E := by
  refine rs_go (P := pgT tb (semT tb n)) (np := 2) (N := 2) (ir := ir30) ?_
  walk_at "start"
  unfold ir30
  refine wp_cons (wp_setf ?_)
  walk_at "go"
  refine setf_of hk (by decide) hc ?_
  walk_at "go"
  exact q
theorem i31 (n k c : Nat) (d : D) (cs : List Cell) (hk : cs[k]? = some (.ins c [])) (hc : ((pgT tb (semT tb n)).fld c).contains ("count" : Str) = true) {Q : D → List Cell → Prop} {E : Exc → List Cell → Prop} (q : Q .non (cs.set k (.ins c [("count", d)]))) : Rs (semT tb (n + 1) 31 [.own k, d] cs) Q E := by
  refine rs_go (P := pgT tb (semT tb n)) (np := 2) (N := 2) (ir := ir31) ?_
  walk_at "start"
  unfold ir31
  refine wp_cons (wp_setf ?_)
  walk_at "go"
  refine setf_of hk (by decide) hc ?_
  walk_at "go"
  exact q
theorem i32 (n k c : Nat) (d : D) (cs : List Cell) (hk : cs[k]? = some (.ins c [])) (hc : ((pgT tb (semT tb n)).fld c).contains ("lot" : Str) = true) {Q : D → List Cell → Prop} {E : Exc → List Cell → Prop} (q : Q .non (cs.set k (.ins c [("lot", d)]))) : Rs (semT tb (n + 1) 32 [.own k, d] cs) Q E := by
  refine rs_go (P := pgT tb (semT tb n)) (np := 2) (N := 2) (ir := ir32) ?_
  walk_at "start"
  unfold ir32
  refine wp_cons (wp_setf ?_)
  walk_at "go"
  refine setf_of hk (by decide) hc ?_
  walk_at "go"
  exact q
theorem ne_sp : ¬ (("serial" : Str) = "place") := by decide +kernel
theorem two_eq {f : Nat} {ir : Sts} (hf : ∀ n, semT tb (n + 1) f = semN (pgT tb (semT tb n)) 3 3 ir) (hir : ir = (.cons (.setf (.v 0) "serial" (.v 1)) (.cons (.setf (.v 0) "place" (.v 2)) .nil)))
    (n k c : Nat) (d e : D) (cs : List Cell) (hk : cs[k]? = some (.ins c [])) (hc : ((pgT tb (semT tb n)).fld c).contains ("serial" : Str) = true) (hc2 : ((pgT tb (semT tb n)).fld c).contains ("place" : Str) = true) {Q : D → List Cell → Prop} {E : Exc → List Cell → Prop} (q : Q .non (cs.set k (.ins c [("serial", d), ("place", e)]))) : Rs (semT tb (n + 1) f [.own k, d, e] cs) Q E := by
  have hkl : k < cs.length := (List.getElem?_eq_some_iff.mp hk).1
  rw [hf n]
  refine rs_go (P := pgT tb (semT tb n)) (np := 3) (N := 3) (ir := ir) ?_
  walk_at "start"
  subst hir
  refine wp_cons (wp_setf ?_)
  walk_at "go"
  refine setf_of hk (by decide) hc ?_
  walk_at "go"
  refine wp_setf ?_
  walk_at "go"
  refine setf_of (fs := [("serial", d)]) (c := c) (by simp [putD, hkl]) (Nat.le_of_ble_eq_true rfl) hc2 ?_
  walk_at "go"
  simpa [putD, ne_sp] using q
def i27 := @two_eq 27 ir27 (fun _ => rfl) rfl
def i28 := @two_eq 28 ir28 (fun _ => rfl) rfl
def i29 := @two_eq 29 ir29 (fun _ => rfl) rfl
theorem lab33 (n c : Nat) (ds : List D) (w : Str) (cs : List Cell) (hc : (pgT tb (semT tb n)).con c "WORD" = some (.str w)) (hf : ((pgT tb (semT tb n)).fld c).contains ("WORD" : Str) = false) {Q : D → List Cell → Prop} {E : Exc → List Cell → Prop} (q : Q (.str w) cs) : Rs (semT tb (n + 1) 33 [.ins c ds] cs) Q E := by
  refine rs_go (P := pgT tb (semT tb n)) (np := 1) (N := 1) (ir := ir33) ?_
  walk_at "start"
  unfold ir33
  refine wp_cons (wp_ret (wp_con ?_))
  walk_at "go"
  refine ⟨c, ds, _, rfl, hc, hf, ?_⟩
  walk_at "go"
  exact q
theorem sp_len : sp.length = 1 := by decide +kernel
theorem lab34 (n c : Nat) (a : Int) (ds : List D) (w : Str) (cs : List Cell) (hw : w.length ≤ 100) (h0 : 0 ≤ a) (h1 : a < 10 ^ 30) (hs : (pgT tb (semT tb (n + 1))).spr 10 c "label" = some 33) (hc : (pgT tb (semT tb n)).con c "WORD" = some (.str w)) (hf : ((pgT tb (semT tb n)).fld c).contains ("WORD" : Str) = false)
    (hi : ((pgT tb (semT tb (n + 1))).fld c).idxOf? ("serial" : Str) = some 0) {Q : D → List Cell → Prop} {E : Exc → List Cell → Prop} (q : Q (.str (w ++ sp ++ sI a)) cs) : Rs (semT tb (n + 2) 34 [.ins c (.int a :: ds)] cs) Q E := by
  have la := sI_len (k := 30) (by decide) h0 h1
  refine rs_go (P := pgT tb (semT tb (n + 1))) (np := 1) (N := 2) (ir := ir34) ?_
  walk_at "start"
  unfold ir34
  refine wp_cons (wp_ret (wp_bin (wp_bin (wp_sup0 (d := .ins c (.int a :: ds)) (c := c) (f := 33) rfl rfl hs ?_))))
  refine sem_call ?_
  refine lab33 n c _ w cs hc hf ?_
  walk_at "go"
  refine two_of rfl rfl (add_s (x := w) (y := sp) (by rw [sp_len]; omega)) ?_
  walk_at "go"
  refine fld_of rfl hi rfl ?_
  walk_at "go"
  refine two_of rfl rfl (add_s (x := w ++ sp) (y := sI a) (by rw [Str.length_append, sp_len]; omega)) ?_
  walk_at "go"
  exact q
theorem lab35 (n c : Nat) (a : Int) (j : Nat) (ds : List D) (f : Nat) (w : Str) (cs : List Cell) (hw : w.length ≤ 200) (h0 : 0 ≤ a) (h1 : a < 10 ^ 30) (hs : (pgT tb (semT tb n)).spr 11 c "label" = some f) (hi : ((pgT tb (semT tb n)).fld c).idxOf? ("place" : Str) = some j) (hj : ds[j]? = some (.int a))
    (hin : ∀ {Q : D → List Cell → Prop} {E : Exc → List Cell → Prop}, Q (.str w) cs → Rs (semT tb n f [.ins c ds] cs) Q E) {Q : D → List Cell → Prop} {E : Exc → List Cell → Prop} (q : Q (.str (w ++ sp ++ sI a)) cs) : Rs (semT tb (n + 1) 35 [.ins c ds] cs) Q E := by
  have la := sI_len (k := 30) (by decide) h0 h1
  refine rs_go (P := pgT tb (semT tb n)) (np := 1) (N := 2) (ir := ir35) ?_
  walk_at "start"
  unfold ir35
  refine wp_cons (wp_ret (wp_bin (wp_bin (wp_sup0 (d := .ins c ds) (c := c) (f := f) rfl rfl hs ?_))))
  refine sem_call ?_
  refine hin ?_
  walk_at "go"
  refine two_of rfl rfl (add_s (x := w) (y := sp) (by rw [sp_len]; omega)) ?_
  walk_at "go"
  refine fld_of rfl hi hj ?_
  walk_at "go"
  refine two_of rfl rfl (add_s (x := w ++ sp) (y := sI a) (by rw [Str.length_append, sp_len]; omega)) ?_
  walk_at "go"
  exact q
theorem lab37 (n : Nat) (a : Int) (cs : List Cell) (h0 : 0 ≤ a) (h1 : a < 10 ^ 30) {Q : D → List Cell → Prop} {E : Exc → List Cell → Prop} (q : Q (.str ("count" ++ sp ++ sI a)) cs) : Rs (semT tb (n + 2) 37 [.ins 3 [.int a]] cs) Q E := by
  have la := sI_len (k := 30) (by decide) h0 h1
  have lw : ("count" : Str).length = 5 := by decide +kernel
  refine rs_go (P := pgT tb (semT tb (n + 1))) (np := 1) (N := 2) (ir := ir37) ?_
  walk_at "start"
  unfold ir37
  refine wp_cons (wp_ret (wp_bin (wp_bin (wp_sup0 (d := .ins 3 [.int a]) (c := 3) (f := 33) rfl rfl rfl ?_))))
  refine sem_call ?_
  refine lab33 n 3 _ "count" cs rfl rfl ?_
  walk_at "go"
  refine two_of rfl rfl (add_s (x := "count" ++ sp) (y := sI a) (by rw [Str.length_append, sp_len]; omega)) ?_
  walk_at "go"
  exact q
theorem app_assoc (a b c : Str) : a ++ b ++ c = a ++ (b ++ c) := TL.ext_tl (by simp only [TL.tl_append, List.append_assoc])
theorem heads_eq (t j : Str) : t ++ sp ++ ("heads " ++ j) = t ++ " heads " ++ j := by
  have e : (" heads " : Str) = sp ++ "heads " := by decide +kernel
  rw [e, ← app_assoc, ← app_assoc]
theorem price_eq (t j : Str) : t ++ sp ++ ("price " ++ j) = t ++ " price " ++ j := by
  have e : (" price " : Str) = sp ++ "price " := by decide +kernel
  rw [e, ← app_assoc, ← app_assoc]
theorem j1 (a : Str) : Txt.join sp [a] = a := by rw [TL.join_eq]; rfl
theorem j2 (a b : Str) : Txt.join sp [a, b] = a ++ sp ++ b := by rw [TL.join_eq]; rfl
theorem j3 (a b c : Str) : Txt.join sp [a, b, c] = a ++ sp ++ b ++ sp ++ c := by
  rw [TL.join_eq]
  show a ++ sp ++ (b ++ sp ++ c) = _
  simp only [app_assoc]
/-- str of a Lot -/
def lotS (M C : List Int) (p : Int) : List Str := [Txt.join sp (M.map sI)] ++ (if C = M then [] else ["heads " ++ Txt.join sp (C.map sI)]) ++ (if p = 0 then [] else ["price " ++ sI p])
theorem lotS_eq (m c : List Int) (p : Int) : Txt.join sp (lotS (isort m) (isort c) p) = lotText m c p := by
  unfold lotS lotText
  by_cases h1 : isort c = isort m <;> by_cases h2 : p = 0
  · simp only [h1, h2, if_true, List.append_nil]
    exact j1 _
  · simp only [h1, h2, if_true, if_false, List.append_nil, List.singleton_append]
    rw [j2, price_eq]
  · simp only [h1, h2, if_true, if_false, List.append_nil, List.singleton_append]
    rw [j2, heads_eq]
  · simp only [h1, h2, if_false, List.singleton_append, List.cons_append, List.nil_append]
    rw [j3, heads_eq, price_eq]
theorem len_h : ("heads " : Str).length = 6 := by decide +kernel
theorem len_p : ("price " : Str).length = 6 := by decide +kernel
theorem s_lotstr (n : Nat) (m c : List Int) (p : Int) (cs : List Cell) (h : RowP m c p) {Q : D → List Cell → Prop} {E : Exc → List Cell → Prop} (q : Q (.str (lotText m c p)) cs) : Rs (semT tb (n + 1) 23 [lotD m c p] cs) Q E := by
  obtain ⟨g1, g2⟩ := pl_len (isort_r h.gr) (by rw [(isort_perm m).length_eq]; exact h.gl2)
  obtain ⟨m1, m2⟩ := pl_len (isort_r h.mr) (by rw [(isort_perm c).length_eq]; exact h.ml2)
  have gl := h.gl2
  have ml := h.ml2
  have p1 : (sI p).length ≤ 10 := sI_len (by decide) h.p0 (by have := h.p1; omega)
  have p2 := h.p0
  have p3 := h.p1
  refine rs_go (P := pgT tb (semT tb n)) (np := 1) (N := 3) (ir := ir23) ?_
  walk_at "start"
  unfold ir23 lotD
  walk_at "gos"
  refine lc_str (xs := isort m) rfl rfl rfl (by rw [(isort_perm m).length_eq]; omega) (abs_small (isort_r h.gr)) ?_
  walk_at "gos"
  refine me_of rfl rfl (join_g g2) ?_
  walk_at "gos"
  walk_at "norm"
  refine wp_mid (fun st => ∃ sl, st = ⟨[.sh (lotD m c p), .mu (([Txt.join sp ((isort m).map sI)] ++ (if isort c = isort m then [] else ["heads " ++ Txt.join sp ((isort c).map sI)])).map .str), sl], cs⟩) ?_ fun st hst => ?_
  · walk_at "go"
    refine tr_ndec (fun h0 => ?_) fun h0 => ?_
    · walk_at "go"
      refine lc_str (xs := isort c) rfl rfl rfl (by rw [(isort_perm c).length_eq]; omega) (abs_small (isort_r h.mr)) ?_
      walk_at "go"
      refine me_of rfl rfl (join_g m2) ?_
      walk_at "go"
      refine two_of rfl rfl (add_s (x := "heads ") (y := Txt.join sp ((isort c).map sI)) (by rw [len_h]; omega)) ?_
      walk_at "go"
      rw [if_neg h0]
      exact ⟨_, rfl⟩
    · walk_at "go"
      rw [if_pos h0]
      exact ⟨_, rfl⟩
  obtain ⟨sl, rfl⟩ := hst
  unfold lotD
  have hq := lotS_eq m c p
  have hlen : (lotS (isort m) (isort c) p).length ≤ 3 := by
    unfold lotS
    by_cases h1 : isort c = isort m <;> by_cases h2 : p = 0 <;> simp [h1, h2]
  have hlens : ∀ w ∈ lotS (isort m) (isort c) p, w.length ≤ 100 := by
    intro w hw
    unfold lotS at hw
    rcases List.mem_append.mp hw with hw | hw
    · rcases List.mem_append.mp hw with hw | hw
      · rw [List.mem_singleton.mp hw]; omega
      · split at hw
        · cases hw
        · rw [List.mem_singleton.mp hw, Str.length_append, len_h]; omega
    · split at hw
      · cases hw
      · rw [List.mem_singleton.mp hw, Str.length_append, len_p]; omega
  have hj := join_len hlens hlen
  refine wp_mid (fun st => ∃ sl, st = ⟨[.sh (lotD m c p), .mu ((lotS (isort m) (isort c) p).map .str), sl], cs⟩) ?_ fun st hst => ?_
  · walk_at "go"
    refine tr_ndec (fun h0 => ?_) fun h0 => ?_
    · walk_at "go"
      refine two_of rfl rfl (add_s (x := "price ") (y := sI p) (by rw [len_p]; omega)) ?_
      walk_at "go"
      refine mu_sl rfl (append_g (by simp; split <;> simp)) ?_
      walk_at "go"
      refine ⟨sl, ?_⟩
      simp only [lotS, if_neg h0, List.map_append]
      rfl
    · walk_at "go"
      refine ⟨sl, ?_⟩
      simp only [lotS, if_pos h0, List.append_nil]
      rfl
  obtain ⟨sl, rfl⟩ := hst
  walk_at "go"
  refine me_of rfl rfl (join_g (by omega)) ?_
  walk_at "go"
  rw [hq]
  exact q
theorem lab36 (n : Nat) (m c : List Int) (p : Int) (cs : List Cell) (h : RowP m c p) (hl : (lotText m c p).length ≤ 200) {Q : D → List Cell → Prop} {E : Exc → List Cell → Prop} (q : Q (.str ("add" ++ sp ++ lotText m c p)) cs) : Rs (semT tb (n + 2) 36 [.ins 8 [lotD m c p]] cs) Q E := by
  have lw : ("add" : Str).length = 3 := by decide +kernel
  refine rs_go (P := pgT tb (semT tb (n + 1))) (np := 1) (N := 2) (ir := ir36) ?_
  walk_at "start"
  unfold ir36
  refine wp_cons (wp_ret (wp_bin (wp_bin (wp_sup0 (d := .ins 8 [lotD m c p]) (c := 8) (f := 33) rfl rfl rfl ?_))))
  refine sem_call ?_
  refine lab33 n 8 _ "add" cs rfl rfl ?_
  walk_at "go"
  refine wp_sto ?_
  walk_at "go"
  refine ⟨0, _, rfl, rfl, ?_⟩
  refine sem_call (ds := [lotD m c p]) ?_
  refine s_lotstr n m c p cs h ?_
  refine ⟨_, rfl, ?_⟩
  refine two_of rfl rfl (add_s (x := "add" ++ sp) (y := lotText m c p) (by rw [Str.length_append, sp_len]; omega)) ?_
  walk_at "go"
  exact q
end K86
end
section
set_option maxHeartbeats 1000000
namespace K86
open PySem L2 Lit
local macro_rules | `(tactic| walk_at "vw") => `(tactic| first | rfl | exact view_own (by assumption) | exact view_ownI (by assumption))
local macro_rules | `(tactic| walk_at "op") => `(tactic| first
  | rfl
  | exact mul_r (by first | rfl | exact small_of (by omega))
  | exact mod_r (by omega)
  | exact fdiv_r (by omega)
  | exact add_s (by assumption)
  | exact len_s (by omega)
  | exact str_i (by omega)
  | exact append_g (by omega))
local macro_rules | `(tactic| walk_at "one") => `(tactic| first
  | (with_reducible refine wp_cons ?_) | (with_reducible refine wp_ite ?_) | (with_reducible refine wp_asg ?_) | (with_reducible refine wp_ret ?_) | (with_reducible refine wp_ex ?_) | (with_reducible refine wp_nil ?_)
  | (with_reducible refine wp_bin ?_) | (with_reducible refine wp_cmp ?_) | (with_reducible refine wp_k ?_) | (with_reducible refine wp_ix ?_) | (with_reducible refine wp_bi ?_) | (with_reducible refine wp_not ?_)
  | ((with_reducible refine' wp_v ?h1 ?_); case h1 => rfl) | ((with_reducible refine' wp_vm ?h1 ?_); case h1 => rfl) | ((with_reducible refine' wp_g ?h1 ?_); case h1 => rfl)
  | (with_reducible refine wp_call ?_) | (with_reducible refine sem_call ?_) | (with_reducible refine sem_mk ?_) | (with_reducible refine wp_evc ?_) | (with_reducible refine wp_evc0 ?_) | (with_reducible refine wp_evs ?_) | (with_reducible refine wp_evs0 ?_)
  | (with_reducible refine wp_and ?_) | (with_reducible refine wp_or ?_) | (with_reducible refine wp_andc ?_) | (with_reducible refine wp_orc ?_) | (with_reducible refine wp_and1 ?_) | (with_reducible refine wp_or1 ?_)
  | (with_reducible refine mid_nx ?_) | (with_reducible refine mid_rt ?_) | (with_reducible refine nxt_nx ?_) | (with_reducible refine nxt_rt ?_) | (with_reducible refine fin_rt ?_) | (with_reducible refine fin_nx ?_)
  | (with_reducible refine cap_sh ?_) | (with_reducible refine cap_fr ?_) | ((with_reducible refine' cap_rf ?h1 ?_); case h1 => rfl)
  | ((with_reducible refine asg_sh ?h1 ?_); (case h1 => exact Nat.le_of_ble_eq_true rfl); (try dsimp only [List.set_cons_zero, List.set_cons_succ, Int.reduceToNat])) | ((with_reducible refine asg_fr ?h1 ?_); (case h1 => exact Nat.le_of_ble_eq_true rfl); (try dsimp only [List.set_cons_zero, List.set_cons_succ, Int.reduceToNat]))
  | ((with_reducible refine' two_of ?h1 ?h2 ?h3 ?_); (case h1 => walk_at "vw"); (case h2 => walk_at "vw"); (case h3 => walk_at "op"))
  | ((with_reducible refine' cm_of ?h1 ?h2 ?h3 ?_); (case h1 => walk_at "vw"); (case h2 => walk_at "vw"); (case h3 => walk_at "op"))
  | ((with_reducible refine' bi_of ?h1 ?h2 ?_); (case h1 => walk_at "vw"); (case h2 => walk_at "op"))
  | ((with_reducible refine' not_of ?h1 ?h2 ?_); (case h1 => walk_at "vw"); (case h2 => rfl))
  | (with_reducible refine wp_tup ?_) | (with_reducible refine wp_lst ?_) | (with_reducible refine wp_chn ?_) | (with_reducible refine wp_setix ?_) | (with_reducible refine wp_no ?_) | (with_reducible refine wp_for ?_) | (with_reducible refine wp_lc ?_) | (with_reducible refine wp_isi ?_) | (with_reducible refine wp_ret0 ?_) | (with_reducible refine wp_conds0 ?_) | (with_reducible refine wp_conds ?_)
  | (with_reducible refine turn_nx ?_) | (with_reducible refine turn_rt ?_) | (with_reducible refine turn_bk ?_) | (with_reducible refine turn_ct ?_) | (with_reducible refine wp_me ?_) | (with_reducible refine wp_mu ?_) | (with_reducible refine wp_fld ?_) | (with_reducible refine wp_sl0 ?_) | (with_reducible refine wp_part0 ?_) | (with_reducible refine wp_part rfl ?_) | (with_reducible refine wp_raise ?_) | (with_reducible refine wp_ife ?_) | (with_reducible refine wp_neg ?_) | (with_reducible refine wp_lrng ?_) | (with_reducible refine wp_inv ?_) | (with_reducible refine wp_con ?_) | (with_reducible refine wp_cell ?_)
  | ((with_reducible refine' setix_ce ?h1 ?h2 ?h3 ?_); (case h1 => first | rfl | assumption); (case h2 => walk_at "vw"); (case h3 => rfl); (try dsimp only [List.set_cons_zero, List.set_cons_succ, Int.reduceToNat]))
  | ((with_reducible refine' setix_sl ?h1 ?h2 ?h3 ?_); (case h1 => rfl); (case h2 => walk_at "vw"); (case h3 => first | rfl | assumption); (try dsimp only [List.set_cons_zero, List.set_cons_succ, Int.reduceToNat]))
  | ((with_reducible refine' mu_ce ?h1 ?h2 ?_); (case h1 => first | rfl | assumption); (case h2 => walk_at "op"); (try dsimp only [List.set_cons_zero, List.set_cons_succ, Int.reduceToNat]))
  | ((with_reducible refine' mu_sl ?h1 ?h2 ?_); (case h1 => rfl); (case h2 => walk_at "op"); (try dsimp only [List.set_cons_zero, List.set_cons_succ, Int.reduceToNat]))
  | ((with_reducible refine' me_of ?h1 ?h2 ?h3 ?_); (case h1 => walk_at "vw"); (case h2 => rfl); (case h3 => walk_at "op"))
  | ((with_reducible refine' isi_of ?h1 ?h2 ?_); (case h1 => walk_at "vw"); (case h2 => rfl))
  | ((with_reducible refine' fld_of ?h1 ?h2 ?h3 ?_); (case h1 => walk_at "vw"); (case h2 => first | rfl | decide +kernel); (case h3 => rfl))
  | ((with_reducible refine' sl_of ?h1 ?h2 ?_); (case h1 => walk_at "vw"); (case h2 => walk_at "op"))
  | ((with_reducible refine' int_of ?h1 ?_); (case h1 => walk_at "vw"))
  | ((with_reducible refine' truu_of ?h1 ?h2 ?_); (case h1 => walk_at "vw"); (case h2 => rfl))
  | ((with_reducible refine' asgT_of ?h1 ?h2 ?_); (case h1 => walk_at "vw"); (case h2 => rfl); (try dsimp only [List.set_cons_zero, List.set_cons_succ, Int.reduceToNat]))
  | ((with_reducible refine And.intro ?h1 ?_); (case h1 => first | rfl | exact Nat.le_of_ble_eq_true rfl))
  | (with_reducible refine tr_T ?_) | (with_reducible refine tr_F ?_) | (with_reducible refine bt_T ?_) | (with_reducible refine bt_F ?_)
  | ((with_reducible refine tr_yes ?h1 ?_); case h1 => first | rfl | assumption) | ((with_reducible refine tr_no ?h1 ?_); case h1 => first | rfl | assumption)
  | ((with_reducible refine bt_yes ?h1 ?_); case h1 => first | rfl | assumption) | ((with_reducible refine bt_no ?h1 ?_); case h1 => first | rfl | assumption))
local macro_rules | `(tactic| walk_at "go") => `(tactic| repeat (walk_at "one"))
local macro_rules | `(tactic| walk_at "start") => `(tactic| dsimp only [List.map_cons, List.map_nil, List.length_cons, List.length_nil, Nat.reduceAdd, Nat.reduceSub, List.replicate, List.cons_append, List.nil_append])
local macro_rules | `(tactic| walk_at "gos") => `(tactic| repeat ((fail_if_success (with_reducible refine is_ite ?_)); walk_at "one"))
local macro_rules | `(tactic| walk_at "norm") => `(tactic| simp only [List.set_cons_zero, List.set_cons_succ, List.map_cons, List.map_nil, List.cons_append, List.nil_append, Stt.put])
local macro_rules | `(tactic| walk_at "op") => `(tactic| first | exact len_ints | exact ix_ints (by omega))
local macro_rules | `(tactic| walk_at "op") => `(tactic| first | exact sorted_g | exact ne_ints | exact eq_ints | exact net_ints | exact eqt_ints)
local macro_rules | `(tactic| walk_at "vw") => `(tactic| (show cellV _ _ = some _; assumption))
local macro_rules | `(tactic| walk_at "op") => `(tactic| first | exact in_ints | exact nin_ints)
open NumText TL
abbrev sN (n : Nat) : Str := sI (n : Int)
theorem tl_sN (n : Nat) : tl (sN n) = numL n := tl_num n
theorem snoc_ind {α : Type} {p : List α → Prop} (h0 : p []) (h1 : ∀ l a, p l → p (l ++ [a])) (l : List α) : p l := by
  have : ∀ r : List α, p r.reverse := by
    intro r
    induction r with
    | nil => exact h0
    | cons a r ih => rw [List.reverse_cons]; exact h1 _ _ ih
  have := this l.reverse
  rwa [List.reverse_reverse] at this
theorem val_snoc (l : List Nat) (c : Nat) : digitsVal (l ++ [c]) = digitsVal l * 10 + (c - 48) := by
  unfold digitsVal
  rw [List.foldl_append]
  rfl
theorem canon_of (l : List Nat) : AllDigits l → l ≠ [] → (1 < l.length → l.head? ≠ some 48) → l = numL (digitsVal l) := by
  induction l using snoc_ind with
  | h0 => intro _ h; exact absurd rfl h
  | h1 l c ih =>
    intro hd _ hh
    have hc : 48 ≤ c ∧ c ≤ 57 := hd c (by simp)
    rw [val_snoc]
    by_cases hl : l = []
    · subst hl
      show [c] = numL (digitsVal [] * 10 + (c - 48))
      have e : digitsVal [] = 0 := rfl
      rw [e, Nat.zero_mul, Nat.zero_add, numL_lt (by omega)]
      rw [show 48 + (c - 48) = c by omega]
    · have hlen : 0 < l.length := List.length_pos_iff.mpr hl
      have hh' : l.head? ≠ some 48 := by
        have := hh (by simp; omega)
        cases l with
        | nil => exact absurd rfl hl
        | cons a r => simpa using this
      have i := ih (fun x hx => hd x (by simp [hx])) hl fun _ => hh'
      have v1 : 1 ≤ digitsVal l := by
        rcases Nat.eq_zero_or_pos (digitsVal l) with z | z
        · rw [z, numL_lt (by decide)] at i
          rw [i] at hh'
          exact absurd rfl hh'
        · exact z
      rw [numL_step (by omega), show (digitsVal l * 10 + (c - 48)) / 10 = digitsVal l by omega, show (digitsVal l * 10 + (c - 48)) % 10 = c - 48 by omega, ← i, show 48 + (c - 48) = c by omega]
theorem numL_head (n : Nat) : 1 < (numL n).length → (numL n).head? ≠ some 48 := by
  induction n using Nat.strongRecOn with
  | _ n ih =>
    by_cases h : n < 10
    · rw [numL_lt h]; simp
    · intro _
      rw [numL_step (by omega)]
      have hne := numL_ne (n / 10)
      have e : (numL (n / 10) ++ [48 + n % 10]).head? = (numL (n / 10)).head? := by
        cases hq : numL (n / 10) with
        | nil => exact absurd hq hne
        | cons a r => rfl
      rw [e]
      by_cases h2 : n / 10 < 10
      · rw [numL_lt h2]
        simp
        omega
      · refine ih (n / 10) (by omega) ?_
        rw [numL_step (by omega)]
        have := List.length_pos_iff.mpr (numL_ne (n / 10 / 10))
        simp
        exact List.length_pos_iff.mpr (numL_ne _)
/-- a word that writes a number in at most so many figures -/
def Fig (most : Nat) (w : Str) (n : Nat) : Prop := w = sN n ∧ w.length ≤ most
theorem Fig.uniq {k j : Nat} {w : Str} {m n : Nat} (h : Fig k w m) (h2 : Fig j w n) : m = n := by
  have e := congrArg tl (h.1.symm.trans h2.1)
  rw [tl_sN, tl_sN] at e
  exact numL_inj e
/-- what its reading hands back -/
def FigR (most : Nat) (w : Str) (d : D) : Prop := (∃ n : Nat, Fig most w n ∧ d = .int (n : Int)) ∨ ((∀ n, ¬ Fig most w n) ∧ d = .non)
theorem tl_digits : tl ("0123456789" : Str) = [48, 49, 50, 51, 52, 53, 54, 55, 56, 57] := by decide +kernel
theorem dig_mem {c : Nat} : c ∈ tl ("0123456789" : Str) ↔ 48 ≤ c ∧ c ≤ 57 := by
  rw [tl_digits]
  simp only [List.mem_cons, List.not_mem_nil, or_false]
  omega
theorem one_zero {c : Nat} : (⟨#[c]⟩ : Str) = "0" ↔ c = 48 := by
  have e : ("0" : Str) = ⟨#[48]⟩ := by decide +kernel
  rw [e]
  constructor
  · intro h
    have := congrArg tl h
    simpa [tl] using this
  · rintro rfl; rfl
theorem int_g {w : Str} (h : AllDigits (tl w)) (h1 : tl w ≠ []) (h2 : w.length ≤ 640) : gBi .int [.str w] = some (.sh (.int ((digitsVal (tl w) : Nat) : Int))) := by
  have := intText_digits (x := w) h h1 (by omega)
  simp only [gBi, this]
  rw [if_pos h2]
theorem str_len0 {w : Str} : w = "" ↔ tl w = [] := by
  have e : ("" : Str) = ⟨#[]⟩ := by decide +kernel
  rw [e]
  constructor
  · rintro rfl; rfl
  · intro h; exact ext_tl (h.trans rfl)
theorem ix_str {w : Str} {c : Nat} {r : List Nat} (h : tl w = c :: r) (hl : w.length ≤ 100000) : gIx (.str w) (.int 0) = some (.sh (.str ⟨#[c]⟩)) := by
  have hl2 : w.cps.toList = c :: r := h
  simp only [gIx]
  rw [if_pos (by omega)]
  simp only [atI, ixN, hl2]
  rw [if_pos (Int.le_refl 0), if_pos (by simp only [List.length_cons]; omega)]
  rfl
theorem fig_none_len {most : Nat} {w : Str} (h : most < w.length) (n : Nat) : ¬ Fig most w n := fun f => by have := f.2; omega
theorem fig_none_dig {most : Nat} {w : Str} {c : Nat} (hc : c ∈ tl w) (h : ¬ (48 ≤ c ∧ c ≤ 57)) (n : Nat) : ¬ Fig most w n := fun f => by
  have e := congrArg tl f.1
  rw [tl_sN] at e
  rw [e] at hc
  exact h (numL_digits n c hc)
theorem fig_none_nil {most : Nat} {w : Str} (h : tl w = []) (n : Nat) : ¬ Fig most w n := fun f => by
  have e := congrArg tl f.1
  rw [tl_sN, h] at e
  exact numL_ne n e.symm
theorem fig_none_zero {most : Nat} {w : Str} {r : List Nat} (h : tl w = 48 :: r) (hr : 1 < w.length) (n : Nat) : ¬ Fig most w n := fun f => by
  have e := congrArg tl f.1
  rw [tl_sN] at e
  rw [len_tl, e] at hr
  refine numL_head n hr ?_
  rw [← e, h]; rfl
theorem fig_some {most : Nat} {w : Str} (h : AllDigits (tl w)) (h0 : tl w ≠ []) (hh : 1 < w.length → (tl w).head? ≠ some 48) (hl : w.length ≤ most) : Fig most w (digitsVal (tl w)) := by
  refine ⟨ext_tl ?_, hl⟩
  rw [tl_sN]
  exact canon_of _ h h0 (by rw [len_tl] at hh; exact hh)
theorem s_figures (n most : Nat) (hm : most ≤ 640) (w : Str) (hw : w.length ≤ 100000) (cs : List Cell) {Q : D → List Cell → Prop} {E : Exc → List Cell → Prop} (q : ∀ d, FigR most w d → Q d cs) : Rs (semT tb (n + 1) 19 [.str w, .int (most : Int)] cs) Q E := by
  refine rs_go (P := pgT tb (semT tb n)) (np := 2) (N := 3) (ir := ir19) ?_
  walk_at "start"
  unfold ir19
  refine wp_mid (fun st => st = ⟨[.sh (.str w), .sh (.int (most : Int)), .no], cs⟩ ∧ tl w ≠ [] ∧ w.length ≤ most) ?_ fun st hst => ?_
  · walk_at "go"
    refine bt_dec (fun h => ?_) fun h => ?_
    · walk_at "go"
      exact q _ (.inr ⟨fig_none_nil (str_len0.mp h), rfl⟩)
    · walk_at "go"
      refine tr_dec (fun h2 => ?_) fun h2 => ?_
      · walk_at "go"
        exact q _ (.inr ⟨fig_none_len (by omega), rfl⟩)
      · walk_at "go"
        exact ⟨fun z => h (str_len0.mpr z), by omega⟩
  obtain ⟨rfl, h0, hl⟩ := hst
  refine wp_mid (fun st => (∃ sl, st = ⟨[.sh (.str w), .sh (.int (most : Int)), sl], cs⟩) ∧ AllDigits (tl w)) ?_ fun st hst => ?_
  · walk_at "go"
    refine ⟨_, rfl, ?_⟩
    refine for_map (tl w) (fun pre st => (∃ sl, st = ⟨[.sh (.str w), .sh (.int (most : Int)), sl], cs⟩) ∧ AllDigits pre) (fun pre x post st hms hI => ?_) (fun st hI => hI) _ ⟨⟨_, rfl⟩, fun c hc => by cases hc⟩
    obtain ⟨⟨sl, rfl⟩, hI⟩ := hI
    have hx : x ∈ tl w := by rw [hms]; simp
    walk_at "go"
    refine tr_ndec (fun h2 => ?_) fun h2 => ?_
    · walk_at "go"
      exact q _ (.inr ⟨fig_none_dig hx fun z => h2 (dig_mem.mpr z), rfl⟩)
    · walk_at "go"
      refine ⟨⟨_, rfl⟩, fun y hy => ?_⟩
      rcases List.mem_append.mp hy with hy | hy
      · exact hI y hy
      · rw [List.mem_singleton.mp hy]; exact dig_mem.mp h2
  obtain ⟨⟨sl, rfl⟩, hd⟩ := hst
  cases htl : tl w with
  | nil => exact absurd htl h0
  | cons c r =>
    refine wp_mid (fun st => (∃ sl, st = ⟨[.sh (.str w), .sh (.int (most : Int)), sl], cs⟩) ∧ (1 < w.length → (tl w).head? ≠ some 48)) ?_ fun st hst => ?_
    · walk_at "go"
      refine bt_dec (fun h => ?_) fun h => ?_
      · walk_at "go"
        refine two_of rfl rfl (ix_str htl hw) ?_
        walk_at "go"
        refine tr_dec (fun h2 => ?_) fun h2 => ?_
        · walk_at "go"
          rw [one_zero] at h2
          subst h2
          exact q _ (.inr ⟨fig_none_zero htl (by omega), rfl⟩)
        · walk_at "go"
          refine ⟨⟨_, rfl⟩, fun _ => ?_⟩
          rw [htl]
          intro z
          exact h2 (one_zero.mpr (by simpa using z))
      · walk_at "go"
        exact ⟨⟨_, rfl⟩, fun z => absurd z (by omega)⟩
    obtain ⟨⟨sl, rfl⟩, hh⟩ := hst
    walk_at "go"
    refine bi_of rfl (int_g hd h0 (by omega)) ?_
    walk_at "go"
    exact q _ (.inl ⟨_, fig_some hd h0 hh hl, rfl⟩)
theorem s_figures_in (n : Nat) (w : Str) (hw : w.length ≤ 100000) (cs : List Cell) {Q : D → List Cell → Prop} {E : Exc → List Cell → Prop} (q : ∀ d, FigR 30 w d → Q d cs) : Rs (semT tb (n + 1) 15 [.str w] cs) Q E := by
  refine rs_go (P := pgT tb (semT tb n)) (np := 1) (N := 2) (ir := ir15) ?_
  walk_at "start"
  unfold ir15
  refine wp_mid (fun st => st = ⟨[.sh (.str w), .no], cs⟩ ∧ tl w ≠ [] ∧ w.length ≤ 30) ?_ fun st hst => ?_
  · walk_at "go"
    refine bt_dec (fun h => ?_) fun h => ?_
    · walk_at "go"
      exact q _ (.inr ⟨fig_none_nil (str_len0.mp h), rfl⟩)
    · walk_at "go"
      refine tr_dec (fun h2 => ?_) fun h2 => ?_
      · walk_at "go"
        exact q _ (.inr ⟨fig_none_len (by omega), rfl⟩)
      · walk_at "go"
        exact ⟨fun z => h (str_len0.mpr z), by omega⟩
  obtain ⟨rfl, h0, hl⟩ := hst
  refine wp_mid (fun st => (∃ sl, st = ⟨[.sh (.str w), sl], cs⟩) ∧ AllDigits (tl w)) ?_ fun st hst => ?_
  · walk_at "go"
    refine ⟨_, rfl, ?_⟩
    refine for_map (tl w) (fun pre st => (∃ sl, st = ⟨[.sh (.str w), sl], cs⟩) ∧ AllDigits pre) (fun pre x post st hms hI => ?_) (fun st hI => hI) _ ⟨⟨_, rfl⟩, fun c hc => by cases hc⟩
    obtain ⟨⟨sl, rfl⟩, hI⟩ := hI
    have hx : x ∈ tl w := by rw [hms]; simp
    walk_at "go"
    refine tr_ndec (fun h2 => ?_) fun h2 => ?_
    · walk_at "go"
      exact q _ (.inr ⟨fig_none_dig hx fun z => h2 (dig_mem.mpr z), rfl⟩)
    · walk_at "go"
      refine ⟨⟨_, rfl⟩, fun y hy => ?_⟩
      rcases List.mem_append.mp hy with hy | hy
      · exact hI y hy
      · rw [List.mem_singleton.mp hy]; exact dig_mem.mp h2
  obtain ⟨⟨sl, rfl⟩, hd⟩ := hst
  cases htl : tl w with
  | nil => exact absurd htl h0
  | cons c r =>
    refine wp_mid (fun st => (∃ sl, st = ⟨[.sh (.str w), sl], cs⟩) ∧ (1 < w.length → (tl w).head? ≠ some 48)) ?_ fun st hst => ?_
    · walk_at "go"
      refine two_of rfl rfl (ix_str htl hw) ?_
      walk_at "go"
      refine bt_dec (fun h => ?_) fun h => ?_
      · walk_at "go"
        refine tr_dec (fun h2 => ?_) fun h2 => ?_
        · walk_at "go"
          rw [one_zero] at h
          subst h
          exact q _ (.inr ⟨fig_none_zero htl (by omega), rfl⟩)
        · walk_at "go"
          exact ⟨⟨_, rfl⟩, fun z => absurd z (by omega)⟩
      · walk_at "go"
        refine ⟨⟨_, rfl⟩, fun _ => ?_⟩
        rw [htl]
        intro z
        exact h (one_zero.mpr (by simpa using z))
    obtain ⟨⟨sl, rfl⟩, hh⟩ := hst
    walk_at "go"
    refine bi_of rfl (int_g hd h0 (by omega)) ?_
    walk_at "go"
    exact q _ (.inl ⟨_, fig_some hd h0 hh hl, rfl⟩)
/-- a number in bounds, in at most ten figures -/
def Num (lo hi : Int) (w : Str) (n : Nat) : Prop := Fig 10 w n ∧ lo ≤ n ∧ (n : Int) ≤ hi
def NumR (lo hi : Int) (w : Str) (d : D) : Prop := (∃ n : Nat, Num lo hi w n ∧ d = .int (n : Int)) ∨ ((∀ n, ¬ Num lo hi w n) ∧ d = .non)
theorem s_number_in (n : Nat) (lo hi : Int) (w : Str) (hw : w.length ≤ 100000) (cs : List Cell) {Q : D → List Cell → Prop} {E : Exc → List Cell → Prop} (q : ∀ d, NumR lo hi w d → Q d cs) : Rs (semT tb (n + 1) 13 [.str w, .int lo, .int hi] cs) Q E := by
  refine rs_go (P := pgT tb (semT tb n)) (np := 3) (N := 5) (ir := ir13) ?_
  walk_at "start"
  unfold ir13
  refine wp_mid (fun st => st = ⟨[.sh (.str w), .sh (.int lo), .sh (.int hi), .no, .no], cs⟩ ∧ tl w ≠ [] ∧ w.length ≤ 10) ?_ fun st hst => ?_
  · walk_at "go"
    refine bt_dec (fun h => ?_) fun h => ?_
    · walk_at "go"
      exact q _ (.inr ⟨fun n f => fig_none_nil (str_len0.mp h) n f.1, rfl⟩)
    · walk_at "go"
      refine tr_dec (fun h2 => ?_) fun h2 => ?_
      · walk_at "go"
        exact q _ (.inr ⟨fun n f => fig_none_len (by omega) n f.1, rfl⟩)
      · walk_at "go"
        exact ⟨fun z => h (str_len0.mpr z), by omega⟩
  obtain ⟨rfl, h0, hl⟩ := hst
  refine wp_mid (fun st => (∃ sl, st = ⟨[.sh (.str w), .sh (.int lo), .sh (.int hi), sl, .no], cs⟩) ∧ AllDigits (tl w)) ?_ fun st hst => ?_
  · walk_at "go"
    refine ⟨_, rfl, ?_⟩
    refine for_map (tl w) (fun pre st => (∃ sl, st = ⟨[.sh (.str w), .sh (.int lo), .sh (.int hi), sl, .no], cs⟩) ∧ AllDigits pre) (fun pre x post st hms hI => ?_) (fun st hI => hI) _ ⟨⟨_, rfl⟩, fun c hc => by cases hc⟩
    obtain ⟨⟨sl, rfl⟩, hI⟩ := hI
    have hx : x ∈ tl w := by rw [hms]; simp
    walk_at "go"
    refine tr_ndec (fun h2 => ?_) fun h2 => ?_
    · walk_at "go"
      exact q _ (.inr ⟨fun n f => fig_none_dig hx (fun z => h2 (dig_mem.mpr z)) n f.1, rfl⟩)
    · walk_at "go"
      refine ⟨⟨_, rfl⟩, fun y hy => ?_⟩
      rcases List.mem_append.mp hy with hy | hy
      · exact hI y hy
      · rw [List.mem_singleton.mp hy]; exact dig_mem.mp h2
  obtain ⟨⟨sl, rfl⟩, hd⟩ := hst
  cases htl : tl w with
  | nil => exact absurd htl h0
  | cons c r =>
    refine wp_mid (fun st => (∃ sl, st = ⟨[.sh (.str w), .sh (.int lo), .sh (.int hi), sl, .no], cs⟩) ∧ (1 < w.length → (tl w).head? ≠ some 48)) ?_ fun st hst => ?_
    · walk_at "go"
      refine two_of rfl rfl (ix_str htl hw) ?_
      walk_at "go"
      refine bt_dec (fun h => ?_) fun h => ?_
      · walk_at "go"
        refine tr_dec (fun h2 => ?_) fun h2 => ?_
        · walk_at "go"
          rw [one_zero] at h
          subst h
          exact q _ (.inr ⟨fun n f => fig_none_zero htl (by omega) n f.1, rfl⟩)
        · walk_at "go"
          exact ⟨⟨_, rfl⟩, fun z => absurd z (by omega)⟩
      · walk_at "go"
        refine ⟨⟨_, rfl⟩, fun _ => ?_⟩
        rw [htl]
        intro z
        exact h (one_zero.mpr (by simpa using z))
    obtain ⟨⟨sl, rfl⟩, hh⟩ := hst
    walk_at "go"
    refine bi_of rfl (int_g hd h0 (by omega)) ?_
    walk_at "go"
    have hf := fig_some hd h0 hh hl
    refine bt_dec (fun h => ?_) fun h => ?_
    · walk_at "go"
      exact q _ (.inr ⟨fun n f => by have := f.1.uniq hf; have := f.2; omega, rfl⟩)
    · walk_at "go"
      refine tr_dec (fun h2 => ?_) fun h2 => ?_
      · walk_at "go"
        exact q _ (.inr ⟨fun n f => by have := f.1.uniq hf; have := f.2; omega, rfl⟩)
      · walk_at "go"
        exact q _ (.inl ⟨_, ⟨hf, by omega, by omega⟩, rfl⟩)
end K86
end
section
set_option maxHeartbeats 1000000
namespace K86
open PySem L2 Lit
local macro_rules | `(tactic| walk_at "vw") => `(tactic| first | rfl | exact view_own (by assumption) | exact view_ownI (by assumption))
local macro_rules | `(tactic| walk_at "op") => `(tactic| first
  | rfl
  | exact mul_r (by first | rfl | exact small_of (by omega))
  | exact mod_r (by omega)
  | exact fdiv_r (by omega)
  | exact add_s (by assumption)
  | exact len_s (by omega)
  | exact str_i (by omega)
  | exact append_g (by omega))
local macro_rules | `(tactic| walk_at "one") => `(tactic| first
  | (with_reducible refine wp_cons ?_) | (with_reducible refine wp_ite ?_) | (with_reducible refine wp_asg ?_) | (with_reducible refine wp_ret ?_) | (with_reducible refine wp_ex ?_) | (with_reducible refine wp_nil ?_)
  | (with_reducible refine wp_bin ?_) | (with_reducible refine wp_cmp ?_) | (with_reducible refine wp_k ?_) | (with_reducible refine wp_ix ?_) | (with_reducible refine wp_bi ?_) | (with_reducible refine wp_not ?_)
  | ((with_reducible refine' wp_v ?h1 ?_); case h1 => rfl) | ((with_reducible refine' wp_vm ?h1 ?_); case h1 => rfl) | ((with_reducible refine' wp_g ?h1 ?_); case h1 => rfl)
  | (with_reducible refine wp_call ?_) | (with_reducible refine sem_call ?_) | (with_reducible refine sem_mk ?_) | (with_reducible refine wp_evc ?_) | (with_reducible refine wp_evc0 ?_) | (with_reducible refine wp_evs ?_) | (with_reducible refine wp_evs0 ?_)
  | (with_reducible refine wp_and ?_) | (with_reducible refine wp_or ?_) | (with_reducible refine wp_andc ?_) | (with_reducible refine wp_orc ?_) | (with_reducible refine wp_and1 ?_) | (with_reducible refine wp_or1 ?_)
  | (with_reducible refine mid_nx ?_) | (with_reducible refine mid_rt ?_) | (with_reducible refine nxt_nx ?_) | (with_reducible refine nxt_rt ?_) | (with_reducible refine fin_rt ?_) | (with_reducible refine fin_nx ?_)
  | (with_reducible refine cap_sh ?_) | (with_reducible refine cap_fr ?_) | ((with_reducible refine' cap_rf ?h1 ?_); case h1 => rfl)
  | ((with_reducible refine asg_sh ?h1 ?_); (case h1 => exact Nat.le_of_ble_eq_true rfl); (try dsimp only [List.set_cons_zero, List.set_cons_succ, Int.reduceToNat])) | ((with_reducible refine asg_fr ?h1 ?_); (case h1 => exact Nat.le_of_ble_eq_true rfl); (try dsimp only [List.set_cons_zero, List.set_cons_succ, Int.reduceToNat]))
  | ((with_reducible refine' two_of ?h1 ?h2 ?h3 ?_); (case h1 => walk_at "vw"); (case h2 => walk_at "vw"); (case h3 => walk_at "op"))
  | ((with_reducible refine' cm_of ?h1 ?h2 ?h3 ?_); (case h1 => walk_at "vw"); (case h2 => walk_at "vw"); (case h3 => walk_at "op"))
  | ((with_reducible refine' bi_of ?h1 ?h2 ?_); (case h1 => walk_at "vw"); (case h2 => walk_at "op"))
  | ((with_reducible refine' not_of ?h1 ?h2 ?_); (case h1 => walk_at "vw"); (case h2 => rfl))
  | (with_reducible refine wp_tup ?_) | (with_reducible refine wp_lst ?_) | (with_reducible refine wp_chn ?_) | (with_reducible refine wp_setix ?_) | (with_reducible refine wp_no ?_) | (with_reducible refine wp_for ?_) | (with_reducible refine wp_lc ?_) | (with_reducible refine wp_isi ?_) | (with_reducible refine wp_ret0 ?_) | (with_reducible refine wp_conds0 ?_) | (with_reducible refine wp_conds ?_)
  | (with_reducible refine turn_nx ?_) | (with_reducible refine turn_rt ?_) | (with_reducible refine turn_bk ?_) | (with_reducible refine turn_ct ?_) | (with_reducible refine wp_me ?_) | (with_reducible refine wp_mu ?_) | (with_reducible refine wp_fld ?_) | (with_reducible refine wp_sl0 ?_) | (with_reducible refine wp_part0 ?_) | (with_reducible refine wp_part rfl ?_) | (with_reducible refine wp_raise ?_) | (with_reducible refine wp_ife ?_) | (with_reducible refine wp_neg ?_) | (with_reducible refine wp_lrng ?_) | (with_reducible refine wp_inv ?_) | (with_reducible refine wp_con ?_) | (with_reducible refine wp_cell ?_)
  | ((with_reducible refine' setix_ce ?h1 ?h2 ?h3 ?_); (case h1 => first | rfl | assumption); (case h2 => walk_at "vw"); (case h3 => rfl); (try dsimp only [List.set_cons_zero, List.set_cons_succ, Int.reduceToNat]))
  | ((with_reducible refine' setix_sl ?h1 ?h2 ?h3 ?_); (case h1 => rfl); (case h2 => walk_at "vw"); (case h3 => first | rfl | assumption); (try dsimp only [List.set_cons_zero, List.set_cons_succ, Int.reduceToNat]))
  | ((with_reducible refine' mu_ce ?h1 ?h2 ?_); (case h1 => first | rfl | assumption); (case h2 => walk_at "op"); (try dsimp only [List.set_cons_zero, List.set_cons_succ, Int.reduceToNat]))
  | ((with_reducible refine' mu_sl ?h1 ?h2 ?_); (case h1 => rfl); (case h2 => walk_at "op"); (try dsimp only [List.set_cons_zero, List.set_cons_succ, Int.reduceToNat]))
  | ((with_reducible refine' me_of ?h1 ?h2 ?h3 ?_); (case h1 => walk_at "vw"); (case h2 => rfl); (case h3 => walk_at "op"))
  | ((with_reducible refine' isi_of ?h1 ?h2 ?_); (case h1 => walk_at "vw"); (case h2 => rfl))
  | ((with_reducible refine' fld_of ?h1 ?h2 ?h3 ?_); (case h1 => walk_at "vw"); (case h2 => first | rfl | decide +kernel); (case h3 => rfl))
  | ((with_reducible refine' sl_of ?h1 ?h2 ?_); (case h1 => walk_at "vw"); (case h2 => walk_at "op"))
  | ((with_reducible refine' int_of ?h1 ?_); (case h1 => walk_at "vw"))
  | ((with_reducible refine' truu_of ?h1 ?h2 ?_); (case h1 => walk_at "vw"); (case h2 => rfl))
  | ((with_reducible refine' asgT_of ?h1 ?h2 ?_); (case h1 => walk_at "vw"); (case h2 => rfl); (try dsimp only [List.set_cons_zero, List.set_cons_succ, Int.reduceToNat]))
  | ((with_reducible refine And.intro ?h1 ?_); (case h1 => first | rfl | exact Nat.le_of_ble_eq_true rfl))
  | (with_reducible refine tr_T ?_) | (with_reducible refine tr_F ?_) | (with_reducible refine bt_T ?_) | (with_reducible refine bt_F ?_)
  | ((with_reducible refine tr_yes ?h1 ?_); case h1 => first | rfl | assumption) | ((with_reducible refine tr_no ?h1 ?_); case h1 => first | rfl | assumption)
  | ((with_reducible refine bt_yes ?h1 ?_); case h1 => first | rfl | assumption) | ((with_reducible refine bt_no ?h1 ?_); case h1 => first | rfl | assumption))
local macro_rules | `(tactic| walk_at "go") => `(tactic| repeat (walk_at "one"))
local macro_rules | `(tactic| walk_at "start") => `(tactic| dsimp only [List.map_cons, List.map_nil, List.length_cons, List.length_nil, Nat.reduceAdd, Nat.reduceSub, List.replicate, List.cons_append, List.nil_append])
local macro_rules | `(tactic| walk_at "gos") => `(tactic| repeat ((fail_if_success (with_reducible refine is_ite ?_)); walk_at "one"))
local macro_rules | `(tactic| walk_at "norm") => `(tactic| simp only [List.set_cons_zero, List.set_cons_succ, List.map_cons, List.map_nil, List.cons_append, List.nil_append, Stt.put])
local macro_rules | `(tactic| walk_at "op") => `(tactic| first | exact len_ints | exact ix_ints (by omega))
local macro_rules | `(tactic| walk_at "op") => `(tactic| first | exact sorted_g | exact ne_ints | exact eq_ints | exact net_ints | exact eqt_ints)
local macro_rules | `(tactic| walk_at "vw") => `(tactic| (show cellV _ _ = some _; assumption))
local macro_rules | `(tactic| walk_at "op") => `(tactic| first | exact in_ints | exact nin_ints)
open NumText TL
theorem spl_ne (S : List Nat) : ∀ (l : List Nat) (k : Nat) (acc : List Nat), spl S k acc l ≠ []
  | [], k, acc => by rw [spl_nil]; simp
  | c :: r, 0, acc => by
    show (if pre S (c :: r) = true then acc :: spl S (S.length - 1) [] r else spl S 0 (acc ++ [c]) r) ≠ []
    split
    · simp
    · exact spl_ne S r 0 _
  | c :: r, k + 1, acc => spl_ne S r k acc
theorem tl_sp : tl sp = [32] := by decide +kernel
theorem sp_kind : sp.cps.all (· < 256) = true := by decide +kernel
theorem split_ne (t : Str) : Txt.split t sp ≠ [] := fun h => by
  have := split_spl t sp (by rw [tl_sp]; simp) (kind_ok sp_kind)
  rw [h] at this
  exact spl_ne _ _ _ _ this.symm
theorem join_len_eq : ∀ {ws : List Str}, ws ≠ [] → (Str.join sp ws).length + 1 = (ws.map (·.length)).sum + ws.length
  | [], h => absurd rfl h
  | [x], _ => by simp [Str.join]
  | x :: y :: r, _ => by
    have ih := join_len_eq (ws := y :: r) (by simp)
    show (x ++ sp ++ Str.join sp (y :: r)).length + 1 = _
    rw [Str.length_append, Str.length_append, sp_len]
    simp only [List.map_cons, List.sum_cons, List.length_cons] at ih ⊢
    omega
theorem sum_mem {l : List Nat} {x : Nat} (h : x ∈ l) : x ≤ l.sum := by
  induction l with
  | nil => cases h
  | cons a r ih =>
    rw [List.sum_cons]
    rcases List.mem_cons.mp h with rfl | h
    · omega
    · have := ih h; omega
theorem split_sum (t : Str) : ((Txt.split t sp).map (·.length)).sum + (Txt.split t sp).length = t.length + 1 := by
  have := join_len_eq (split_ne t)
  rw [StrLaws.join_split] at this
  omega
theorem split_word {t w : Str} (h : w ∈ Txt.split t sp) : w.length ≤ t.length := by
  have h1 := split_sum t
  have h2 := sum_mem (List.mem_map_of_mem (f := fun w : Str => w.length) h)
  have h3 := List.length_pos_iff.mpr (split_ne t)
  omega
theorem split_cnt (t : Str) : (Txt.split t sp).length ≤ t.length + 1 := by
  have h1 := split_sum t
  omega
theorem split_g {t : Str} (h : t.length ≤ 100000) : gMe .split (.str t) [.str sp] = some (.fr ((Txt.split t sp).map .str)) := by
  simp only [gMe]
  rw [if_pos ⟨by rw [sp_len]; rfl, by omega⟩]
/-- places ahead -/
structure Lead (ws : List Str) (ps : List Nat) (rest : List Str) : Prop where
  eq : ws = ps.map sN ++ rest
  le : ∀ p ∈ ps, p ≤ 11
  mx : ∀ w r, rest = w :: r → ∀ n, n ≤ 11 → w ≠ sN n
theorem sN_inj {m n : Nat} (h : sN m = sN n) : m = n := by
  have := congrArg tl h
  rw [tl_sN, tl_sN] at this
  exact numL_inj this
theorem Lead.uniq : ∀ {ws : List Str} {ps qs : List Nat} {r s : List Str}, Lead ws ps r → Lead ws qs s → ps = qs ∧ r = s
  | ws, [], [], r, s, h, k => ⟨rfl, by have := h.eq.symm.trans k.eq; simpa using this⟩
  | ws, p :: ps, [], r, s, h, k => by
    have e := h.eq.symm.trans k.eq
    simp only [List.map_cons, List.map_nil, List.cons_append, List.nil_append] at e
    exact absurd rfl (k.mx _ _ e.symm p (h.le p (by simp)))
  | ws, [], q :: qs, r, s, h, k => by
    have e := k.eq.symm.trans h.eq
    simp only [List.map_cons, List.map_nil, List.cons_append, List.nil_append] at e
    exact absurd rfl (h.mx _ _ e.symm q (k.le q (by simp)))
  | ws, p :: ps, q :: qs, r, s, h, k => by
    have e := h.eq.symm.trans k.eq
    simp only [List.map_cons, List.cons_append] at e
    obtain ⟨e1, e2⟩ := List.cons.inj e
    have e1 := sN_inj e1
    subst e1
    obtain ⟨i1, i2⟩ := Lead.uniq (ws := ps.map sN ++ r) (ps := ps) (qs := qs) (r := r) (s := s) ⟨rfl, fun x hx => h.le x (by simp [hx]), h.mx⟩ ⟨e2, fun x hx => k.le x (by simp [hx]), k.mx⟩
    exact ⟨by rw [i1], i2⟩
theorem num_le {w : Str} {n : Nat} (h : n ≤ 11) (e : w = sN n) : Num 0 11 w n := by
  subst e
  have : (sN n).length ≤ 10 := sI_len (by decide) (by omega) (by omega)
  exact ⟨⟨rfl, this⟩, by omega, by omega⟩
theorem ix_strs {ws : List Str} {i : Nat} (h : i < ws.length) : gIx (.lst (ws.map .str)) (.int (i : Int)) = some (.sh (.str ws[i])) := by
  simp only [gIx, atI, ixN, List.length_map]
  rw [if_pos (by omega), if_pos (by omega)]
  simp [h]
theorem len_strs {ws : List Str} : gBi .len [.lst (ws.map .str)] = some (.sh (.int ws.length)) := by
  simp [gBi]
abbrev nI (ps : List Nat) : List Int := ps.map fun (n : Nat) => (n : Int)
theorem drop_cons {α : Type} {l : List α} {k : Nat} {x : α} {r : List α} (h : l.drop k = x :: r) : ∃ hk : k < l.length, l[k] = x ∧ l.drop (k + 1) = r := by
  have hk : k < l.length := by
    have := congrArg List.length h
    simp at this
    omega
  rw [List.drop_eq_getElem_cons hk] at h
  obtain ⟨h1, h2⟩ := List.cons.inj h
  exact ⟨hk, h1, h2⟩
theorem s_leading (n i : Nat) (ws : List Str) (hi : i ≤ ws.length) (hws : ws.length ≤ 50000) (hw : ∀ w ∈ ws, w.length ≤ 100000) (cs : List Cell) {Q : D → List Cell → Prop} {E : Exc → List Cell → Prop}
    (q : ∀ ps rest, Lead (ws.drop i) ps rest → Q (.tup [.lst ((nI ps).map .int), .int ((i + ps.length : Nat) : Int)]) cs) : Rs (semT tb (n + 2) 14 [.lst (ws.map .str), .int (i : Int)] cs) Q E := by
  refine rs_go (P := pgT tb (semT tb (n + 1))) (np := 2) (N := 3) (ir := ir14) ?_
  walk_at "start"
  unfold ir14
  refine wp_mid (fun st => st = ⟨[.sh (.lst (ws.map .str)), .sh (.int (i : Int)), .mu []], cs⟩) ?_ fun st hst => ?_
  · walk_at "go"
    rfl
  subst hst
  refine wp_mid (fun st => ∃ ps rest, Lead (ws.drop i) ps rest ∧ st = ⟨[.sh (.lst (ws.map .str)), .sh (.int ((i + ps.length : Nat) : Int)), .mu ((nI ps).map .int)], cs⟩) ?_ fun st hst => ?_
  · refine wp_whl (fun m st => ∃ ps rest, ws.drop i = ps.map sN ++ rest ∧ (∀ p ∈ ps, p ≤ 11) ∧ m + ps.length = 100000 ∧ ps.length ≤ 50000 ∧ st = ⟨[.sh (.lst (ws.map .str)), .sh (.int ((i + ps.length : Nat) : Int)), .mu ((nI ps).map .int)], cs⟩) (fun m st h => ?_) ⟨[], ws.drop i, by simp, by simp, by simp, by simp, by simp⟩
    obtain ⟨ps, rest, he, hp, hm, hm2, rfl⟩ := h
    have hlen : i + ps.length + rest.length = ws.length := by
      have := congrArg List.length he
      simp at this
      omega
    refine ⟨m - 1, by omega, ?_⟩
    refine wp_and (wp_andc ?_)
    walk_at "go"
    refine bt_dec (fun h => ?_) fun h => ?_
    · cases rest with
      | nil => rw [List.length_map] at h; simp at hlen; omega
      | cons w r =>
        have hd : ws.drop (i + ps.length) = w :: r := by
          rw [← List.drop_drop, he]
          simp
        obtain ⟨hk, hkw, _⟩ := drop_cons hd
        walk_at "go"
        refine two_of rfl rfl (ix_strs hk) ?_
        walk_at "go"
        rw [hkw]
        have hww : w.length ≤ 100000 := hw w (by rw [← hkw]; exact List.getElem_mem hk)
        refine s_number_in n 0 11 w hww cs fun d hd2 => ?_
        rcases hd2 with ⟨v, hv, rfl⟩ | ⟨hno, rfl⟩
        · walk_at "go"
          refine two_of rfl rfl (ix_strs hk) ?_
          walk_at "go"
          rw [hkw]
          have ew := hv.1.1
          have hint : gBi .int [.str w] = some (.sh (.int (v : Int))) := by
            have := int_g (w := w) (by rw [ew, tl_sN]; exact numL_digits v) (by rw [ew, tl_sN]; exact numL_ne v) (by have := hv.1.2; omega)
            rw [this]
            have e2 : digitsVal (tl w) = v := by rw [ew, tl_sN, numL_val]
            rw [e2]
          refine bi_of rfl hint ?_
          walk_at "go"
          refine mu_sl rfl (append_g (by simp; omega)) ?_
          walk_at "go"
          refine wp_augAdd (a := ((i + ps.length : Nat) : Int)) rfl ?_
          walk_at "go"
          refine ⟨ps ++ [v], r, by rw [he, ew]; simp, fun p hp2 => ?_, by simp; omega, by simp at hlen ⊢; omega, ?_⟩
          · rcases List.mem_append.mp hp2 with h | h
            · exact hp p h
            · rw [List.mem_singleton.mp h]
              have := hv.2.2
              omega
          · simp [Stt.put]
            omega
        · walk_at "go"
          refine ⟨ps, w :: r, ⟨he, hp, fun w' r' e x hx ew => ?_⟩, rfl⟩
          obtain ⟨rfl, rfl⟩ := List.cons.inj e
          exact hno x (num_le hx ew)
    · walk_at "go"
      have : rest = [] := by
        cases rest with
        | nil => rfl
        | cons w r => rw [List.length_map] at h; simp at hlen; omega
      subst this
      exact ⟨ps, [], ⟨he, hp, fun w r e => nomatch e⟩, rfl⟩
  · obtain ⟨ps, rest, hL, rfl⟩ := hst
    walk_at "go"
    exact q ps rest hL
theorem tl_eq {x y : Str} : x = y ↔ tl x = tl y := ⟨fun h => by rw [h], ext_tl⟩
/-- the words of a lot's text -/
def lotW (M C : List Int) (p : Int) : List Str := M.map sI ++ (if C = M then [] else ("heads" : Str) :: C.map sI) ++ (if p = 0 then [] else [("price" : Str), sI p])
theorem join_app : ∀ {a b : List Str}, a ≠ [] → b ≠ [] → Str.join sp (a ++ b) = Str.join sp a ++ sp ++ Str.join sp b
  | [], _, h, _ => absurd rfl h
  | [x], b, _, h => by
    cases b with
    | nil => exact absurd rfl h
    | cons y r => rfl
  | x :: y :: r, b, _, h => by
    show x ++ sp ++ Str.join sp ((y :: r) ++ b) = x ++ sp ++ Str.join sp (y :: r) ++ sp ++ Str.join sp b
    rw [join_app (a := y :: r) (by simp) h]
    simp only [app_assoc]
theorem join_cons (a : Str) {b : List Str} (h : b ≠ []) : Str.join sp (a :: b) = a ++ sp ++ Str.join sp b := join_app (a := [a]) (by simp) h
theorem lotW_join (g m : List Int) (p : Int) (hg : g ≠ []) (hm : m ≠ []) : Str.join sp (lotW (isort g) (isort m) p) = lotText g m p := by
  have g0 : isort g ≠ [] := fun e => hg (by have := (isort_perm g).symm; rw [e] at this; simpa using this)
  have m0 : isort m ≠ [] := fun e => hm (by have := (isort_perm m).symm; rw [e] at this; simpa using this)
  have e1 : (isort g).map sI ≠ [] := by simpa using g0
  have e2 : (isort m).map sI ≠ [] := by simpa using m0
  have h1 : (" heads " : Str) = sp ++ "heads" ++ sp := by decide +kernel
  have h2 : (" price " : Str) = sp ++ "price" ++ sp := by decide +kernel
  have e3 : Str.join sp [("price" : Str), sI p] = "price" ++ sp ++ sI p := rfl
  unfold lotW lotText
  simp only [TL.join_eq]
  by_cases c1 : isort m = isort g <;> by_cases c2 : p = 0
  · simp [c1, c2]
  · simp only [c1, c2, if_true, if_false, List.append_nil]
    rw [join_app e1 (by simp), e3, h2]
    simp only [app_assoc]
  · simp only [c1, c2, if_true, if_false, List.append_nil]
    rw [join_app e1 (by simp), join_cons _ e2, h1]
    simp only [app_assoc]
  · simp only [c1, c2, if_true, if_false]
    rw [join_app (by simp [e1]) (by simp), join_app e1 (by simp), join_cons _ e2, e3, h1, h2]
    simp only [app_assoc]
theorem nosp_sI {p : Int} (h : 0 ≤ p) : (32 : Nat) ∉ tl (sI p) := by
  obtain ⟨n, rfl⟩ := Int.eq_ofNat_of_zero_le h
  rw [show tl (sI ((n : Nat) : Int)) = numL n from tl_num n]
  exact numL_free (.inl (by decide))
theorem nosp_heads : (32 : Nat) ∉ tl ("heads" : Str) := by decide +kernel
theorem nosp_price : (32 : Nat) ∉ tl ("price" : Str) := by decide +kernel
theorem lotW_nosp {g m : List Int} {p : Int} (h : RowP g m p) : ∀ w ∈ lotW (isort g) (isort m) p, (32 : Nat) ∉ tl w := by
  intro w hw
  have hs : ∀ {xs : List Int}, (∀ x ∈ xs, 0 ≤ x ∧ x < 12) → ∀ w ∈ (isort xs).map sI, (32 : Nat) ∉ tl w := fun hx w hw => by
    obtain ⟨x, hx2, rfl⟩ := List.mem_map.mp hw
    exact nosp_sI (isort_r hx x hx2).1
  unfold lotW at hw
  rcases List.mem_append.mp hw with hw | hw
  · rcases List.mem_append.mp hw with hw | hw
    · exact hs h.gr w hw
    · split at hw
      · cases hw
      · rcases List.mem_cons.mp hw with rfl | hw
        · exact nosp_heads
        · exact hs h.mr w hw
  · split at hw
    · cases hw
    · rcases List.mem_cons.mp hw with rfl | hw
      · exact nosp_price
      · rw [List.mem_singleton.mp hw]
        exact nosp_sI h.p0
/-- a text that starts with a word and goes on with a lot's: its words -/
theorem split_lot {g m : List Int} {p : Int} (h : RowP g m p) (w0 : Str) (h0 : (32 : Nat) ∉ tl w0) : Txt.split (w0 ++ sp ++ lotText g m p) sp = w0 :: lotW (isort g) (isort m) p := by
  have hg : g ≠ [] := fun e => by have := h.gl; rw [e] at this; simp at this
  have hne : lotW (isort g) (isort m) p ≠ [] := fun e => by
    have e2 := congrArg List.length e
    have l := (isort_perm g).length_eq
    have h3 := h.gl
    have h4 : ((isort g).map sI).length ≤ (lotW (isort g) (isort m) p).length := by
      unfold lotW
      rw [List.length_append, List.length_append]
      omega
    rw [e2, List.length_map, l, List.length_nil] at h4
    omega
  have e : w0 ++ sp ++ lotText g m p = Txt.join sp (w0 :: lotW (isort g) (isort m) p) := by
    rw [TL.join_eq, join_cons _ hne, lotW_join g m p hg h.m0]
  rw [e]
  refine split_join tl_sp sp_kind (by simp) fun w hw => ?_
  rcases List.mem_cons.mp hw with rfl | hw
  · exact h0
  · exact lotW_nosp h w hw
theorem heads_no (n : Nat) : ("heads" : Str) ≠ sN n := fun e => by
  have := congrArg tl e
  rw [tl_sN] at this
  have h1 := numL_digits n 104 (by rw [← this]; decide +kernel)
  omega
theorem price_no (n : Nat) : ("price" : Str) ≠ sN n := fun e => by
  have := congrArg tl e
  rw [tl_sN] at this
  have h1 := numL_digits n 112 (by rw [← this]; decide +kernel)
  omega
theorem heads_price : ¬ (("price" : Str) = "heads") := by decide +kernel
theorem nI_of : ∀ {xs : List Int}, (∀ x ∈ xs, 0 ≤ x ∧ x < 12) → ∃ ps : List Nat, xs = nI ps ∧ (∀ p ∈ ps, p ≤ 11) ∧ xs.map sI = ps.map sN
  | [], _ => ⟨[], rfl, by simp, rfl⟩
  | x :: xs, h => by
    obtain ⟨ps, h1, h2, h3⟩ := nI_of (xs := xs) fun y hy => h y (List.mem_cons_of_mem _ hy)
    have hx := h x (by simp)
    obtain ⟨n, rfl⟩ := Int.eq_ofNat_of_zero_le hx.1
    refine ⟨n :: ps, by rw [h1]; rfl, fun p hp => ?_, by rw [List.map_cons, h3]; rfl⟩
    rcases List.mem_cons.mp hp with rfl | hp
    · omega
    · exact h2 p hp
end K86
end
section
set_option maxHeartbeats 1000000
namespace K86
open PySem L2 Lit
local macro_rules | `(tactic| walk_at "vw") => `(tactic| first | rfl | exact view_own (by assumption) | exact view_ownI (by assumption))
local macro_rules | `(tactic| walk_at "op") => `(tactic| first
  | rfl
  | exact mul_r (by first | rfl | exact small_of (by omega))
  | exact mod_r (by omega)
  | exact fdiv_r (by omega)
  | exact add_s (by assumption)
  | exact len_s (by omega)
  | exact str_i (by omega)
  | exact append_g (by omega))
local macro_rules | `(tactic| walk_at "one") => `(tactic| first
  | (with_reducible refine wp_cons ?_) | (with_reducible refine wp_ite ?_) | (with_reducible refine wp_asg ?_) | (with_reducible refine wp_ret ?_) | (with_reducible refine wp_ex ?_) | (with_reducible refine wp_nil ?_)
  | (with_reducible refine wp_bin ?_) | (with_reducible refine wp_cmp ?_) | (with_reducible refine wp_k ?_) | (with_reducible refine wp_ix ?_) | (with_reducible refine wp_bi ?_) | (with_reducible refine wp_not ?_)
  | ((with_reducible refine' wp_v ?h1 ?_); case h1 => rfl) | ((with_reducible refine' wp_vm ?h1 ?_); case h1 => rfl) | ((with_reducible refine' wp_g ?h1 ?_); case h1 => rfl)
  | (with_reducible refine wp_call ?_) | (with_reducible refine sem_call ?_) | (with_reducible refine sem_mk ?_) | (with_reducible refine wp_evc ?_) | (with_reducible refine wp_evc0 ?_) | (with_reducible refine wp_evs ?_) | (with_reducible refine wp_evs0 ?_)
  | (with_reducible refine wp_and ?_) | (with_reducible refine wp_or ?_) | (with_reducible refine wp_andc ?_) | (with_reducible refine wp_orc ?_) | (with_reducible refine wp_and1 ?_) | (with_reducible refine wp_or1 ?_)
  | (with_reducible refine mid_nx ?_) | (with_reducible refine mid_rt ?_) | (with_reducible refine nxt_nx ?_) | (with_reducible refine nxt_rt ?_) | (with_reducible refine fin_rt ?_) | (with_reducible refine fin_nx ?_)
  | (with_reducible refine cap_sh ?_) | (with_reducible refine cap_fr ?_) | ((with_reducible refine' cap_rf ?h1 ?_); case h1 => rfl)
  | ((with_reducible refine asg_sh ?h1 ?_); (case h1 => exact Nat.le_of_ble_eq_true rfl); (try dsimp only [List.set_cons_zero, List.set_cons_succ, Int.reduceToNat])) | ((with_reducible refine asg_fr ?h1 ?_); (case h1 => exact Nat.le_of_ble_eq_true rfl); (try dsimp only [List.set_cons_zero, List.set_cons_succ, Int.reduceToNat]))
  | ((with_reducible refine' two_of ?h1 ?h2 ?h3 ?_); (case h1 => walk_at "vw"); (case h2 => walk_at "vw"); (case h3 => walk_at "op"))
  | ((with_reducible refine' cm_of ?h1 ?h2 ?h3 ?_); (case h1 => walk_at "vw"); (case h2 => walk_at "vw"); (case h3 => walk_at "op"))
  | ((with_reducible refine' bi_of ?h1 ?h2 ?_); (case h1 => walk_at "vw"); (case h2 => walk_at "op"))
  | ((with_reducible refine' not_of ?h1 ?h2 ?_); (case h1 => walk_at "vw"); (case h2 => rfl))
  | (with_reducible refine wp_tup ?_) | (with_reducible refine wp_lst ?_) | (with_reducible refine wp_chn ?_) | (with_reducible refine wp_setix ?_) | (with_reducible refine wp_no ?_) | (with_reducible refine wp_for ?_) | (with_reducible refine wp_lc ?_) | (with_reducible refine wp_isi ?_) | (with_reducible refine wp_ret0 ?_) | (with_reducible refine wp_conds0 ?_) | (with_reducible refine wp_conds ?_)
  | (with_reducible refine turn_nx ?_) | (with_reducible refine turn_rt ?_) | (with_reducible refine turn_bk ?_) | (with_reducible refine turn_ct ?_) | (with_reducible refine wp_me ?_) | (with_reducible refine wp_mu ?_) | (with_reducible refine wp_fld ?_) | (with_reducible refine wp_sl0 ?_) | (with_reducible refine wp_part0 ?_) | (with_reducible refine wp_part rfl ?_) | (with_reducible refine wp_raise ?_) | (with_reducible refine wp_ife ?_) | (with_reducible refine wp_neg ?_) | (with_reducible refine wp_lrng ?_) | (with_reducible refine wp_inv ?_) | (with_reducible refine wp_con ?_) | (with_reducible refine wp_cell ?_)
  | ((with_reducible refine' setix_ce ?h1 ?h2 ?h3 ?_); (case h1 => first | rfl | assumption); (case h2 => walk_at "vw"); (case h3 => rfl); (try dsimp only [List.set_cons_zero, List.set_cons_succ, Int.reduceToNat]))
  | ((with_reducible refine' setix_sl ?h1 ?h2 ?h3 ?_); (case h1 => rfl); (case h2 => walk_at "vw"); (case h3 => first | rfl | assumption); (try dsimp only [List.set_cons_zero, List.set_cons_succ, Int.reduceToNat]))
  | ((with_reducible refine' mu_ce ?h1 ?h2 ?_); (case h1 => first | rfl | assumption); (case h2 => walk_at "op"); (try dsimp only [List.set_cons_zero, List.set_cons_succ, Int.reduceToNat]))
  | ((with_reducible refine' mu_sl ?h1 ?h2 ?_); (case h1 => rfl); (case h2 => walk_at "op"); (try dsimp only [List.set_cons_zero, List.set_cons_succ, Int.reduceToNat]))
  | ((with_reducible refine' me_of ?h1 ?h2 ?h3 ?_); (case h1 => walk_at "vw"); (case h2 => rfl); (case h3 => walk_at "op"))
  | ((with_reducible refine' isi_of ?h1 ?h2 ?_); (case h1 => walk_at "vw"); (case h2 => rfl))
  | ((with_reducible refine' fld_of ?h1 ?h2 ?h3 ?_); (case h1 => walk_at "vw"); (case h2 => first | rfl | decide +kernel); (case h3 => rfl))
  | ((with_reducible refine' sl_of ?h1 ?h2 ?_); (case h1 => walk_at "vw"); (case h2 => walk_at "op"))
  | ((with_reducible refine' int_of ?h1 ?_); (case h1 => walk_at "vw"))
  | ((with_reducible refine' truu_of ?h1 ?h2 ?_); (case h1 => walk_at "vw"); (case h2 => rfl))
  | ((with_reducible refine' asgT_of ?h1 ?h2 ?_); (case h1 => walk_at "vw"); (case h2 => rfl); (try dsimp only [List.set_cons_zero, List.set_cons_succ, Int.reduceToNat]))
  | ((with_reducible refine And.intro ?h1 ?_); (case h1 => first | rfl | exact Nat.le_of_ble_eq_true rfl))
  | (with_reducible refine tr_T ?_) | (with_reducible refine tr_F ?_) | (with_reducible refine bt_T ?_) | (with_reducible refine bt_F ?_)
  | ((with_reducible refine tr_yes ?h1 ?_); case h1 => first | rfl | assumption) | ((with_reducible refine tr_no ?h1 ?_); case h1 => first | rfl | assumption)
  | ((with_reducible refine bt_yes ?h1 ?_); case h1 => first | rfl | assumption) | ((with_reducible refine bt_no ?h1 ?_); case h1 => first | rfl | assumption))
local macro_rules | `(tactic| walk_at "go") => `(tactic| repeat (walk_at "one"))
local macro_rules | `(tactic| walk_at "start") => `(tactic| dsimp only [List.map_cons, List.map_nil, List.length_cons, List.length_nil, Nat.reduceAdd, Nat.reduceSub, List.replicate, List.cons_append, List.nil_append])
local macro_rules | `(tactic| walk_at "gos") => `(tactic| repeat ((fail_if_success (with_reducible refine is_ite ?_)); walk_at "one"))
local macro_rules | `(tactic| walk_at "norm") => `(tactic| simp only [List.set_cons_zero, List.set_cons_succ, List.map_cons, List.map_nil, List.cons_append, List.nil_append, Stt.put])
local macro_rules | `(tactic| walk_at "op") => `(tactic| first | exact len_ints | exact ix_ints (by omega))
local macro_rules | `(tactic| walk_at "op") => `(tactic| first | exact sorted_g | exact ne_ints | exact eq_ints | exact net_ints | exact eqt_ints)
local macro_rules | `(tactic| walk_at "vw") => `(tactic| (show cellV _ _ = some _; assumption))
local macro_rules | `(tactic| walk_at "op") => `(tactic| first | exact in_ints | exact nin_ints | exact len_strs)
open NumText TL
def tailW (p : Int) : List Str := if p = 0 then [] else [("price" : Str), sI p]
/-- the line that a lot writes -/
def Can (w0 line : Str) (g m : List Int) (p : Int) : Prop := RowP g m p ∧ line = w0 ++ sp ++ lotText g m p
theorem isort_row {g m : List Int} {p : Int} (h : RowP g m p) : RowP (isort g) (isort m) p where
  gn := (isort_perm g).nodup_iff.mpr h.gn
  gr := isort_r h.gr
  gl := by rw [(isort_perm g).length_eq]; exact h.gl
  mn := (isort_perm m).nodup_iff.mpr h.mn
  ms := fun y hy => (isort_perm g).mem_iff.mpr (h.ms y ((isort_perm m).mem_iff.mp hy))
  m0 := fun e => h.m0 (by have := (isort_perm m).symm; rw [e] at this; simpa using this)
  p0 := h.p0
  p1 := h.p1
theorem isort_isort (g : List Int) : isort (isort g) = isort g := isort_id (isort_sorted g)
theorem lotText_sort (g m : List Int) (p : Int) : lotText (isort g) (isort m) p = lotText g m p := by
  unfold lotText
  rw [isort_isort, isort_isort]
theorem nosp_lot : (32 : Nat) ∉ tl ("lot" : Str) := by decide +kernel
theorem mx_tail {p : Int} (w : Str) (r : List Str) (h : tailW p = w :: r) : ∀ n, n ≤ 11 → w ≠ sN n := by
  intro n _ e
  unfold tailW at h
  split at h
  · cases h
  · obtain ⟨rfl, _⟩ := List.cons.inj h
    exact price_no n e
/-- the first places of a lot's words -/
theorem lead_lot {g m : List Int} {p : Int} (h : RowP g m p) : ∃ ps, isort g = nI ps ∧ Lead (lotW (isort g) (isort m) p) ps ((if isort m = isort g then [] else ("heads" : Str) :: (isort m).map sI) ++ tailW p) := by
  obtain ⟨ps, h1, h2, h3⟩ := nI_of (isort_r h.gr)
  refine ⟨ps, h1, ?_, h2, ?_⟩
  · unfold lotW tailW
    rw [h3, List.append_assoc]
  · intro w r e n hn
    split at e
    · exact mx_tail w r (by simpa using e) n hn
    · obtain ⟨rfl, _⟩ := List.cons.inj e
      exact heads_no n
theorem lead_heads {g m : List Int} {p : Int} (h : RowP g m p) : ∃ qs, isort m = nI qs ∧ Lead ((isort m).map sI ++ tailW p) qs (tailW p) := by
  obtain ⟨ps, h1, h2, h3⟩ := nI_of (isort_r h.mr)
  exact ⟨ps, h1, by rw [h3], h2, mx_tail⟩
theorem eq_strD {a b : Str} : gCmp .Eq (.str a) (.str b) = some (decide (a = b)) := rfl
theorem mk_lot2 {n : Nat} {cs : List Cell} {ms cd : List Int} {dc : D} {p : Int} {Q : D → List Cell → Prop} {E : Exc → List Cell → Prop} (hz : Zc0 cs) (hdc : dc = .non ∧ cd = ms ∨ dc = .lst (cd.map .int)) (hl : ms.length ≤ 100000) (hl2 : cd.length ≤ 100000)
    (q : RowP ms cd p → ∀ cs2, sealC (pgT tb (semT tb (n + 2))) cs.length 0 cs2 = some (lotD ms cd p, cs) → Q .non cs2) (e : ¬ RowP ms cd p → ∀ r cs2, cs2.take cs.length = cs → cs.length ≤ cs2.length → E ⟨1, [.str r]⟩ cs2) :
    Rs (semT tb (n + 2) 20 [.own cs.length, .lst (ms.map .int), dc, .int p] (cs ++ [.ins 0 []])) Q E := by
  refine s_lotinit n cs.length _ (by simp) ms cd dc p hdc hl hl2 (fun h => ?_) fun h r => ?_
  · exact q h _ (mk_seal hz (lotF_ok _ _ _ _) (lotF_fld _ _ _ _))
  · exact e h r _ (by simp) (by simp)
theorem ix_last {ws : List Str} {w : Str} (h : ws.getLast? = some w) : gIx (.lst (ws.map .str)) (.int (-1)) = some (.sh (.str w)) := by
  have h0 : ws ≠ [] := fun e => by rw [e] at h; cases h
  have hl : 0 < ws.length := List.length_pos_iff.mpr h0
  simp only [gIx, atI, ixN, List.length_map]
  rw [if_neg (by omega), if_pos (by omega)]
  rw [List.getLast?_eq_getElem?] at h
  have e : ((-1 : Int) + (ws.length : Int)).toNat = ws.length - 1 := by omega
  simp [e, h]
theorem tail_last {p : Int} {r : List Str} {w : Str} (h : r = tailW p) (hw : r.getLast? = some w) (h0 : 0 ≤ p) (h1 : p ≤ 1000000000) : ∃ n : Nat, p = n ∧ Num 1 1000000000 w n := by
  subst h
  unfold tailW at hw
  split at hw
  · cases hw
  · next hp =>
    have e : w = sI p := by simpa using hw.symm
    obtain ⟨n, rfl⟩ := Int.eq_ofNat_of_zero_le h0
    refine ⟨n, rfl, ⟨e, ?_⟩, by omega, h1⟩
    rw [e]
    exact sI_len (by decide) (by omega) (by omega)
theorem lot_sp : ("lot " : Str) = "lot" ++ sp := by decide +kernel
theorem last_le {xs : List Int} (h : ∀ x ∈ xs, 0 ≤ x ∧ x < 12) (h0 : xs ≠ []) : ∃ v, gIx (.tup (xs.map .int)) (.int (-1)) = some (.sh (.int v)) ∧ v < 12 := by
  have hl : 0 < xs.length := List.length_pos_iff.mpr h0
  have hg : xs.length - 1 < xs.length := by omega
  refine ⟨xs[xs.length - 1], ?_, (h _ (List.getElem_mem hg)).2⟩
  simp only [gIx, atI, ixN, List.length_map]
  rw [if_neg (by omega), if_pos (by omega)]
  have e : ((-1 : Int) + (xs.length : Int)).toNat = xs.length - 1 := by omega
  simp [e, hg]
theorem is_int {v : Int} : gCmp .Is (.int v) .non = some false := rfl
theorem lotText_len {g m : List Int} {p : Int} (h : RowP g m p) : (lotText g m p).length ≤ 200 := by
  obtain ⟨g1, g2⟩ := pl_len (isort_r h.gr) (by rw [(isort_perm g).length_eq]; exact h.gl2)
  obtain ⟨m1, m2⟩ := pl_len (isort_r h.mr) (by rw [(isort_perm m).length_eq]; exact h.ml2)
  have p1 : (sI p).length ≤ 10 := sI_len (by decide) h.p0 (by have := h.p1; omega)
  unfold lotText
  by_cases c1 : isort m = isort g <;> by_cases c2 : p = 0 <;> simp only [c1, c2, if_true, if_false, Str.length_append, len_heads, len_price] <;> omega
theorem len_lot : ("lot " : Str).length = 4 := by decide +kernel
set_option maxHeartbeats 4000000 in
theorem s_lotin (n : Nat) (num : Int) (line : Str) (hl : line.length ≤ 40000) (cs : List Cell) (hz : Zc0 cs) {Q : D → List Cell → Prop} {E : Exc → List Cell → Prop}
    (q : ∀ ms cd p, Can "lot" line ms cd p → Q (lotD ms cd p) cs) (e : (∀ g m p, ¬ Can "lot" line g m p) → E ⟨2, [.int num]⟩ cs) : Rs (semT tb (n + 3) 38 [.str line, .int 12, .int num] cs) Q E := by
  have hsplit : ∀ g m p, Can "lot" line g m p → Txt.split line sp = ("lot" : Str) :: lotW (isort g) (isort m) p := fun g m p hc => by
    rw [hc.2]
    exact split_lot hc.1 "lot" nosp_lot
  have hcnt := split_cnt line
  have hwl : ∀ w ∈ Txt.split line sp, w.length ≤ 100000 := fun w hw => by have := split_word hw; omega
  have hne := split_ne line
  refine rs_go (P := pgT tb (semT tb (n + 2))) (np := 3) (N := 9) (ir := ir38) ?_
  walk_at "start"
  unfold ir38
  refine wp_mid (fun st => st = ⟨[.sh (.str line), .sh (.int 12), .sh (.int num), .mu ((Txt.split line sp).map .str), .no, .no, .no, .no, .no], cs⟩) ?_ fun st hst => ?_
  · walk_at "go"
    refine me_of rfl rfl (split_g (by omega)) ?_
    walk_at "go"
    rfl
  subst hst
  generalize hws : Txt.split line sp = ws at *
  have hlen : 1 ≤ ws.length := List.length_pos_iff.mpr hne
  -- members
  refine wp_mid (fun st => ∃ ps r1, Lead (ws.drop 1) ps r1 ∧ st = ⟨[.sh (.str line), .sh (.int 12), .sh (.int num), .sh (.lst (ws.map .str)), .no, .no, .sh (.lst ((nI ps).map .int)), .sh (.int ((1 + ps.length : Nat) : Int)), .no], cs⟩) ?_ fun st hst => ?_
  · refine wp_asgT ?_
    walk_at "go"
    refine s_leading n 1 ws hlen (by omega) hwl cs fun ps r1 hL => ?_
    walk_at "go"
    exact ⟨ps, r1, hL, rfl⟩
  obtain ⟨ps, r1, hL, rfl⟩ := hst
  have hr1 : ws.drop (1 + ps.length) = r1 := by
    rw [← List.drop_drop, hL.eq]
    simp
  have hrl : 1 + ps.length + r1.length = ws.length := by
    have := congrArg List.length hL.eq
    simp at this
    omega
  refine wp_mid (fun st => st = ⟨[.sh (.str line), .sh (.int 12), .sh (.int num), .sh (.lst (ws.map .str)), .sh .non, .no, .sh (.lst ((nI ps).map .int)), .sh (.int ((1 + ps.length : Nat) : Int)), .no], cs⟩) ?_ fun st hst => ?_
  · walk_at "go"
    rfl
  subst hst
  -- candidates
  refine wp_mid (fun st => ∃ (dc : D) (cd : List Nat) (ix : Nat) (r3 : List Str), ws.drop ix = r3 ∧ ix + r3.length = ws.length ∧ (dc = .non ∧ cd = ps ∨ dc = .lst ((nI cd).map .int)) ∧ cd.length ≤ 100000 ∧
      (∀ g m p, Can "lot" line g m p → nI ps = isort g ∧ nI cd = isort m ∧ r3 = tailW p) ∧
      st = ⟨[.sh (.str line), .sh (.int 12), .sh (.int num), .sh (.lst (ws.map .str)), .sh dc, .no, .sh (.lst ((nI ps).map .int)), .sh (.int (ix : Int)), .no], cs⟩) ?_ fun st hst => ?_
  · have noheads : r1.head? ≠ some "heads" → ∀ g m p, Can "lot" line g m p → nI ps = isort g ∧ nI ps = isort m ∧ r1 = tailW p := fun hh g m p hc => by
      have e1 := hsplit g m p hc
      rw [e1] at hL
      obtain ⟨ps', h1, h2⟩ := lead_lot hc.1
      obtain ⟨i1, i2⟩ := hL.uniq h2
      by_cases c1 : isort m = isort g
      · rw [if_pos c1, List.nil_append] at i2
        exact ⟨by rw [i1, h1], by rw [i1, c1, h1], i2⟩
      · rw [if_neg c1] at i2
        rw [i2] at hh
        exact absurd rfl hh
    walk_at "go"
    refine bt_dec (fun h => ?_) fun h => ?_
    · cases hr : r1 with
      | nil => rw [hr] at hrl; simp at hrl; omega
      | cons w r =>
        obtain ⟨hk, hkw, hk2⟩ := drop_cons (hr1.trans hr)
        walk_at "go"
        refine two_of rfl rfl (ix_strs hk) ?_
        walk_at "go"
        rw [hkw]
        refine tr_dec (fun h2 => ?_) fun h2 => ?_
        · subst h2
          refine wp_cons (wp_asgT ?_)
          walk_at "go"
          refine s_leading n (1 + ps.length + 1) ws (by omega) (by omega) hwl cs fun qs r3 hL2 => ?_
          walk_at "go"
          have h3 : ws.drop (1 + ps.length + 1 + qs.length) = r3 := by
            rw [← List.drop_drop, hL2.eq]
            simp
          have h4 : 1 + ps.length + 1 + qs.length + r3.length = ws.length := by
            have := congrArg List.length hL2.eq
            simp at this
            omega
          refine ⟨_, qs, 1 + ps.length + 1 + qs.length, r3, h3, h4, .inr rfl, by omega, fun g m p hc => ?_, rfl⟩
          have e1 := hsplit g m p hc
          obtain ⟨ps', k1, k2⟩ := lead_lot hc.1
          have hL' := hL
          rw [e1] at hL'
          obtain ⟨i1, i2⟩ := hL'.uniq k2
          by_cases c1 : isort m = isort g
          · rw [if_pos c1, List.nil_append, hr] at i2
            exfalso
            unfold tailW at i2
            split at i2
            · cases i2
            · obtain ⟨z, _⟩ := List.cons.inj i2
              exact heads_price z.symm
          · rw [if_neg c1, hr] at i2
            obtain ⟨_, i3⟩ := List.cons.inj i2
            obtain ⟨qs', l1, l2⟩ := lead_heads hc.1
            rw [hk2, i3] at hL2
            obtain ⟨j1, j2⟩ := hL2.uniq l2
            exact ⟨by rw [i1, k1], by rw [j1, l1], j2⟩
        · walk_at "go"
          refine ⟨_, ps, 1 + ps.length, r1, hr1, hrl, .inl ⟨rfl, rfl⟩, by omega, noheads ?_, rfl⟩
          rw [hr]
          intro z
          exact h2 (by simpa using z)
    · walk_at "go"
      have hr : r1 = [] := by
        cases hr : r1 with
        | nil => rfl
        | cons w r => rw [hr] at hrl; simp at hrl; omega
      refine ⟨_, ps, 1 + ps.length, r1, hr1, hrl, .inl ⟨rfl, rfl⟩, by omega, noheads ?_, rfl⟩
      rw [hr]
      simp
  obtain ⟨dc, cd, ix, r3, h3, h4, hdc, hcl, hcan, rfl⟩ := hst
  refine wp_mid (fun st => st = ⟨[.sh (.str line), .sh (.int 12), .sh (.int num), .sh (.lst (ws.map .str)), .sh dc, .sh .non, .sh (.lst ((nI ps).map .int)), .sh (.int (ix : Int)), .no], cs⟩) ?_ fun st hst => ?_
  · walk_at "go"
    rfl
  subst hst
  -- price
  refine wp_mid (fun st => ∃ (dp : D) (pv : Int), (dp = .non ∧ pv = 0 ∨ dp = .int pv) ∧ (∀ g m p, Can "lot" line g m p → pv = p) ∧
      st = ⟨[.sh (.str line), .sh (.int 12), .sh (.int num), .sh (.lst (ws.map .str)), .sh dc, .sh dp, .sh (.lst ((nI ps).map .int)), .sh (.int (ix : Int)), .no], cs⟩) ?_ fun st hst => ?_
  · walk_at "go"
    refine tr_dec (fun h => ?_) fun h => ?_
    · have h3n : r3 ≠ [] := fun e => by rw [e] at h4; simp at h4; omega
      obtain ⟨w, hw⟩ : ∃ w, r3.getLast? = some w := ⟨_, List.getLast?_eq_some_getLast h3n⟩
      have hw2 : ws.getLast? = some w := by
        rw [← h3] at hw
        rw [List.getLast?_drop, if_neg (by omega)] at hw
        exact hw
      walk_at "go"
      refine two_of rfl rfl (ix_last hw2) ?_
      walk_at "go"
      refine s_number_in (n + 1) 1 1000000000 w (hwl w (List.mem_of_getLast? hw2)) cs fun d hd => ?_
      rcases hd with ⟨v, hv, rfl⟩ | ⟨hno, rfl⟩
      · walk_at "go"
        refine ⟨_, v, .inr rfl, fun g m p hc => ?_, rfl⟩
        obtain ⟨n', e1, e2⟩ := tail_last (hcan g m p hc).2.2 hw hc.1.p0 hc.1.p1
        rw [e1, hv.1.uniq e2.1]
      · walk_at "go"
        refine ⟨_, 0, .inl ⟨rfl, rfl⟩, fun g m p hc => ?_, rfl⟩
        obtain ⟨n', e1, e2⟩ := tail_last (hcan g m p hc).2.2 hw hc.1.p0 hc.1.p1
        exact absurd e2 (hno n')
    · walk_at "go"
      refine ⟨.non, 0, .inl ⟨rfl, rfl⟩, fun g m p hc => ?_, rfl⟩
      have hr : r3 = [] := by
        cases hr : r3 with
        | nil => rfl
        | cons w r => rw [hr] at h4; simp at h4; omega
      have := (hcan g m p hc).2.2
      rw [hr] at this
      unfold tailW at this
      split at this
      · next z => exact z.symm
      · cases this
  obtain ⟨dp, pv, hdp, hpv, rfl⟩ := hst
  have hnil : (nI ps).length ≤ 100000 := by
    simp only [List.length_map]
    omega
  refine wp_mid (fun st => RowP (nI ps) (nI cd) pv ∧ st = ⟨[.sh (.str line), .sh (.int 12), .sh (.int num), .sh (.lst (ws.map .str)), .sh dc, .sh dp, .sh (.lst ((nI ps).map .int)), .sh (.int (ix : Int)), .sh (lotD (nI ps) (nI cd) pv)], cs⟩) ?_ fun st hst => ?_
  · have hbad : ¬ RowP (nI ps) (nI cd) pv → E ⟨2, [.int num]⟩ cs := fun hR => e fun g m p hc => by
      obtain ⟨c1, c2, _⟩ := hcan g m p hc
      rw [c1, c2, hpv g m p hc] at hR
      exact hR (isort_row hc.1)
    refine wp_tryR (wp_cons (wp_asg (wp_mk rfl ?_)))
    rcases hdp with ⟨rfl, rfl⟩ | rfl
    all_goals
      walk_at "go"
      refine mk_lot2 hz (hdc.imp (fun z => ⟨z.1, by rw [z.2]⟩) id) hnil (by simpa using hcl) (fun hR cs2 hs => ?_) fun hR r cs2 h1 h2 => ?_
      · refine ⟨rfl, _, _, hs, ?_⟩
        walk_at "go"
        exact ⟨hR, rfl⟩
      · rw [h1]
        refine ⟨h2, ?_, rfl, fun z => (by cases z), fun _ => ?_⟩
        · rw [hz.up]
          simp [lows, low]
        · walk_at "go"
          exact ⟨_, rfl, hbad hR⟩
  obtain ⟨hR, rfl⟩ := hst
  have hR2 := isort_row hR
  have hlt := lotText_len hR
  walk_at "go"
  refine wp_sto ?_
  walk_at "go"
  refine ⟨0, _, rfl, rfl, ?_⟩
  refine sem_call ?_
  refine s_lotstr (n + 1) (nI ps) (nI cd) pv cs hR ?_
  refine ⟨_, rfl, ?_⟩
  refine two_of rfl rfl (add_s (x := "lot ") (y := lotText (nI ps) (nI cd) pv) (by rw [len_lot]; omega)) ?_
  walk_at "go"
  refine bt_ndec (fun h => ?_) fun h => ?_
  · walk_at "go"
    refine ⟨_, rfl, e fun g m p hc => h ?_⟩
    obtain ⟨c1, c2, _⟩ := hcan g m p hc
    rw [c1, c2, hpv g m p hc, lotText_sort, hc.2, lot_sp]
  · walk_at "go"
    obtain ⟨v, hv1, hv2⟩ := last_le (isort_r hR.gr) (fun z => by have := (isort_perm (nI ps)).length_eq; rw [z] at this; have := hR.gl; simp at *; omega)
    refine two_of rfl rfl hv1 ?_
    walk_at "go"
    refine tr_dec (fun z => absurd z (by omega)) fun _ => ?_
    walk_at "go"
    refine q _ _ _ ⟨hR, ?_⟩
    rw [← lot_sp, h]
end K86
end
section
set_option maxHeartbeats 1000000
namespace K86
open PySem L2 Lit
local macro_rules | `(tactic| walk_at "vw") => `(tactic| first | rfl | exact view_own (by assumption) | exact view_ownI (by assumption))
local macro_rules | `(tactic| walk_at "op") => `(tactic| first
  | rfl
  | exact mul_r (by first | rfl | exact small_of (by omega))
  | exact mod_r (by omega)
  | exact fdiv_r (by omega)
  | exact add_s (by assumption)
  | exact len_s (by omega)
  | exact str_i (by omega)
  | exact append_g (by omega))
local macro_rules | `(tactic| walk_at "one") => `(tactic| first
  | (with_reducible refine wp_cons ?_) | (with_reducible refine wp_ite ?_) | (with_reducible refine wp_asg ?_) | (with_reducible refine wp_ret ?_) | (with_reducible refine wp_ex ?_) | (with_reducible refine wp_nil ?_)
  | (with_reducible refine wp_bin ?_) | (with_reducible refine wp_cmp ?_) | (with_reducible refine wp_k ?_) | (with_reducible refine wp_ix ?_) | (with_reducible refine wp_bi ?_) | (with_reducible refine wp_not ?_)
  | ((with_reducible refine' wp_v ?h1 ?_); case h1 => rfl) | ((with_reducible refine' wp_vm ?h1 ?_); case h1 => rfl) | ((with_reducible refine' wp_g ?h1 ?_); case h1 => rfl)
  | (with_reducible refine wp_call ?_) | (with_reducible refine sem_call ?_) | (with_reducible refine sem_mk ?_) | (with_reducible refine wp_evc ?_) | (with_reducible refine wp_evc0 ?_) | (with_reducible refine wp_evs ?_) | (with_reducible refine wp_evs0 ?_)
  | (with_reducible refine wp_and ?_) | (with_reducible refine wp_or ?_) | (with_reducible refine wp_andc ?_) | (with_reducible refine wp_orc ?_) | (with_reducible refine wp_and1 ?_) | (with_reducible refine wp_or1 ?_)
  | (with_reducible refine mid_nx ?_) | (with_reducible refine mid_rt ?_) | (with_reducible refine nxt_nx ?_) | (with_reducible refine nxt_rt ?_) | (with_reducible refine fin_rt ?_) | (with_reducible refine fin_nx ?_)
  | (with_reducible refine cap_sh ?_) | (with_reducible refine cap_fr ?_) | ((with_reducible refine' cap_rf ?h1 ?_); case h1 => rfl)
  | ((with_reducible refine asg_sh ?h1 ?_); (case h1 => exact Nat.le_of_ble_eq_true rfl); (try dsimp only [List.set_cons_zero, List.set_cons_succ, Int.reduceToNat])) | ((with_reducible refine asg_fr ?h1 ?_); (case h1 => exact Nat.le_of_ble_eq_true rfl); (try dsimp only [List.set_cons_zero, List.set_cons_succ, Int.reduceToNat]))
  | ((with_reducible refine' two_of ?h1 ?h2 ?h3 ?_); (case h1 => walk_at "vw"); (case h2 => walk_at "vw"); (case h3 => walk_at "op"))
  | ((with_reducible refine' cm_of ?h1 ?h2 ?h3 ?_); (case h1 => walk_at "vw"); (case h2 => walk_at "vw"); (case h3 => walk_at "op"))
  | ((with_reducible refine' bi_of ?h1 ?h2 ?_); (case h1 => walk_at "vw"); (case h2 => walk_at "op"))
  | ((with_reducible refine' not_of ?h1 ?h2 ?_); (case h1 => walk_at "vw"); (case h2 => rfl))
  | (with_reducible refine wp_tup ?_) | (with_reducible refine wp_lst ?_) | (with_reducible refine wp_chn ?_) | (with_reducible refine wp_setix ?_) | (with_reducible refine wp_no ?_) | (with_reducible refine wp_for ?_) | (with_reducible refine wp_lc ?_) | (with_reducible refine wp_isi ?_) | (with_reducible refine wp_ret0 ?_) | (with_reducible refine wp_conds0 ?_) | (with_reducible refine wp_conds ?_)
  | (with_reducible refine turn_nx ?_) | (with_reducible refine turn_rt ?_) | (with_reducible refine turn_bk ?_) | (with_reducible refine turn_ct ?_) | (with_reducible refine wp_me ?_) | (with_reducible refine wp_mu ?_) | (with_reducible refine wp_fld ?_) | (with_reducible refine wp_sl0 ?_) | (with_reducible refine wp_part0 ?_) | (with_reducible refine wp_part rfl ?_) | (with_reducible refine wp_raise ?_) | (with_reducible refine wp_ife ?_) | (with_reducible refine wp_neg ?_) | (with_reducible refine wp_lrng ?_) | (with_reducible refine wp_inv ?_) | (with_reducible refine wp_con ?_) | (with_reducible refine wp_cell ?_)
  | ((with_reducible refine' setix_ce ?h1 ?h2 ?h3 ?_); (case h1 => first | rfl | assumption); (case h2 => walk_at "vw"); (case h3 => rfl); (try dsimp only [List.set_cons_zero, List.set_cons_succ, Int.reduceToNat]))
  | ((with_reducible refine' setix_sl ?h1 ?h2 ?h3 ?_); (case h1 => rfl); (case h2 => walk_at "vw"); (case h3 => first | rfl | assumption); (try dsimp only [List.set_cons_zero, List.set_cons_succ, Int.reduceToNat]))
  | ((with_reducible refine' mu_ce ?h1 ?h2 ?_); (case h1 => first | rfl | assumption); (case h2 => walk_at "op"); (try dsimp only [List.set_cons_zero, List.set_cons_succ, Int.reduceToNat]))
  | ((with_reducible refine' mu_sl ?h1 ?h2 ?_); (case h1 => rfl); (case h2 => walk_at "op"); (try dsimp only [List.set_cons_zero, List.set_cons_succ, Int.reduceToNat]))
  | ((with_reducible refine' me_of ?h1 ?h2 ?h3 ?_); (case h1 => walk_at "vw"); (case h2 => rfl); (case h3 => walk_at "op"))
  | ((with_reducible refine' isi_of ?h1 ?h2 ?_); (case h1 => walk_at "vw"); (case h2 => rfl))
  | ((with_reducible refine' fld_of ?h1 ?h2 ?h3 ?_); (case h1 => walk_at "vw"); (case h2 => first | rfl | decide +kernel); (case h3 => rfl))
  | ((with_reducible refine' sl_of ?h1 ?h2 ?_); (case h1 => walk_at "vw"); (case h2 => walk_at "op"))
  | ((with_reducible refine' int_of ?h1 ?_); (case h1 => walk_at "vw"))
  | ((with_reducible refine' truu_of ?h1 ?h2 ?_); (case h1 => walk_at "vw"); (case h2 => rfl))
  | ((with_reducible refine' asgT_of ?h1 ?h2 ?_); (case h1 => walk_at "vw"); (case h2 => rfl); (try dsimp only [List.set_cons_zero, List.set_cons_succ, Int.reduceToNat]))
  | ((with_reducible refine And.intro ?h1 ?_); (case h1 => first | rfl | exact Nat.le_of_ble_eq_true rfl))
  | (with_reducible refine tr_T ?_) | (with_reducible refine tr_F ?_) | (with_reducible refine bt_T ?_) | (with_reducible refine bt_F ?_)
  | ((with_reducible refine tr_yes ?h1 ?_); case h1 => first | rfl | assumption) | ((with_reducible refine tr_no ?h1 ?_); case h1 => first | rfl | assumption)
  | ((with_reducible refine bt_yes ?h1 ?_); case h1 => first | rfl | assumption) | ((with_reducible refine bt_no ?h1 ?_); case h1 => first | rfl | assumption))
local macro_rules | `(tactic| walk_at "go") => `(tactic| repeat (walk_at "one"))
local macro_rules | `(tactic| walk_at "start") => `(tactic| dsimp only [List.map_cons, List.map_nil, List.length_cons, List.length_nil, Nat.reduceAdd, Nat.reduceSub, List.replicate, List.cons_append, List.nil_append])
local macro_rules | `(tactic| walk_at "gos") => `(tactic| repeat ((fail_if_success (with_reducible refine is_ite ?_)); walk_at "one"))
local macro_rules | `(tactic| walk_at "norm") => `(tactic| simp only [List.set_cons_zero, List.set_cons_succ, List.map_cons, List.map_nil, List.cons_append, List.nil_append, Stt.put])
local macro_rules | `(tactic| walk_at "op") => `(tactic| first | exact len_ints | exact ix_ints (by omega))
local macro_rules | `(tactic| walk_at "op") => `(tactic| first | exact sorted_g | exact ne_ints | exact eq_ints | exact net_ints | exact eqt_ints)
local macro_rules | `(tactic| walk_at "vw") => `(tactic| (show cellV _ _ = some _; assumption))
local macro_rules | `(tactic| walk_at "op") => `(tactic| first | exact in_ints | exact nin_ints | exact len_strs)
open NumText TL
def wd : Nat → Str
  | 1 => "drop"
  | 2 => "release"
  | 3 => "count"
  | 4 => "root"
  | 5 => "tell"
  | 6 => "join"
  | _ => "leave"
inductive Deed where
  | add (g m : List Int) (p : Int)
  | one (k a : Nat)
  | two (k a b : Nat)
def Deed.ok : Deed → Prop
  | .add g m p => RowP g m p
  | .one k a => 1 ≤ k ∧ k ≤ 4 ∧ a < 10 ^ 30
  | .two k a b => 5 ≤ k ∧ k ≤ 7 ∧ a < 10 ^ 30 ∧ b < 10 ^ 30
def Deed.txt : Deed → Str
  | .add g m p => "add" ++ sp ++ lotText g m p
  | .one k a => wd k ++ sp ++ sN a
  | .two k a b => wd k ++ sp ++ sN a ++ sp ++ sN b
def Deed.obj : Deed → D
  | .add g m p => .ins 8 [lotD g m p]
  | .one k a => .ins k [.int (a : Int)]
  | .two k a b => .ins k [.int (a : Int), .int (b : Int)]
def DeedR (cs : List Cell) (d : D) : Deed → Prop
  | .add g m p => ∃ dg dm, d = .tup [.str "add", .tup [dg, dm, .int p]] ∧ cellV cs dg = some (.lst (g.map .int)) ∧ cellV cs dm = some (.lst (m.map .int))
  | .one k a => d = .tup [.str (wd k), .int (a : Int)]
  | .two k a b => d = .tup [.str (wd k), .int (a : Int), .int (b : Int)]
theorem wd_cases (k : Nat) : wd k = "drop" ∨ wd k = "release" ∨ wd k = "count" ∨ wd k = "root" ∨ wd k = "tell" ∨ wd k = "join" ∨ wd k = "leave" := by
  unfold wd
  split <;> simp
theorem wd_len (k : Nat) : (wd k).length ≤ 7 := by
  rcases wd_cases k with h | h | h | h | h | h | h <;> rw [h] <;> decide +kernel
theorem wd_add (k : Nat) : ¬ (wd k = "add") := by
  rcases wd_cases k with h | h | h | h | h | h | h <;> rw [h] <;> decide +kernel
theorem wd_nosp (k : Nat) : (32 : Nat) ∉ tl (wd k) := by
  rcases wd_cases k with h | h | h | h | h | h | h <;> rw [h] <;> decide +kernel
theorem sN_len {a : Nat} (h : a < 10 ^ 30) : (sN a).length ≤ 30 := sI_len (by decide) (by omega) (by omega)
theorem add_sp : ("add " : Str) = "add" ++ sp := by decide +kernel
theorem len_add : ("add" : Str).length = 3 := by decide +kernel
theorem len_addsp : ("add " : Str).length = 4 := by decide +kernel
theorem txt_len {x : Deed} (h : x.ok) : x.txt.length ≤ 300 := by
  cases x with
  | add g m p =>
    have := lotText_len h
    simp only [Deed.txt, Str.length_append, len_add, sp_len]
    omega
  | one k a =>
    have h1 := wd_len k
    have h2 := sN_len h.2.2
    simp only [Deed.txt, Str.length_append, sp_len]
    omega
  | two k a b =>
    have h1 := wd_len k
    have h2 := sN_len h.2.2.1
    have h3 := sN_len h.2.2.2
    simp only [Deed.txt, Str.length_append, sp_len]
    omega
theorem nat_small {a : Nat} (h : a < 10 ^ 30) : (a : Int).natAbs < 2 ^ 1900 := by
  have : (a : Int).natAbs < 10 ^ 30 := by omega
  exact Nat.lt_of_lt_of_le this (by decide +kernel)
set_option maxHeartbeats 4000000 in
theorem s_text (n : Nat) (d : D) (x : Deed) (cs : List Cell) (hx : x.ok) (hd : DeedR cs d x) {Q : D → List Cell → Prop} {E : Exc → List Cell → Prop} (q : Q (.str x.txt) cs) : Rs (semT tb (n + 2) 18 [d] cs) Q E := by
  refine rs_go (P := pgT tb (semT tb (n + 1))) (np := 1) (N := 2) (ir := ir18) ?_
  walk_at "start"
  unfold ir18
  cases x with
  | add g m p =>
    obtain ⟨dg, dm, rfl, h1, h2⟩ := hd
    walk_at "go"
    refine s_lottext n dg dm g m p cs h1 h2 hx fun hl => ?_
    walk_at "go"
    refine two_of rfl rfl (add_s (x := "add ") (y := lotText g m p) (by rw [len_addsp]; omega)) ?_
    walk_at "go"
    rw [add_sp]
    exact q
  | one k a =>
    obtain rfl : d = _ := hd
    have l1 := wd_len k
    have l2 := sN_len hx.2.2
    walk_at "go"
    refine tr_dec (fun z => absurd z (wd_add k)) fun _ => ?_
    walk_at "go"
    refine lc_str (xs := [(a : Int)]) rfl rfl rfl (by simp) (fun x hx2 => ?_) ?_
    · rw [List.mem_singleton.mp hx2]
      exact nat_small hx.2.2
    walk_at "go"
    refine me_of rfl rfl (join_g (ws := [wd k, sN a]) (by simp [sp_len]; omega)) ?_
    rw [j2]
    walk_at "go"
    exact q
  | two k a b =>
    obtain rfl : d = _ := hd
    have l1 := wd_len k
    have l2 := sN_len hx.2.2.1
    have l3 := sN_len hx.2.2.2
    walk_at "go"
    refine tr_dec (fun z => absurd z (wd_add k)) fun _ => ?_
    walk_at "go"
    refine lc_str (xs := [(a : Int), (b : Int)]) rfl rfl rfl (by simp) (fun x hx2 => ?_) ?_
    · simp only [List.mem_cons, List.not_mem_nil, or_false] at hx2
      rcases hx2 with rfl | rfl
      · exact nat_small hx.2.2.1
      · exact nat_small hx.2.2.2
    walk_at "go"
    refine me_of rfl rfl (join_g (ws := [wd k, sN a, sN b]) (by simp [sp_len]; omega)) ?_
    rw [j3]
    walk_at "go"
    exact q
set_option maxHeartbeats 4000000 in
theorem s_deed (n : Nat) (kind : Int) (hk : 0 ≤ kind ∧ kind < 8) (c : Cell) (rest : List Cell) (hc : SrcP c) {Q : D → List Cell → Prop} {E : Exc → List Cell → Prop} (q : ∀ x d c', Deed.ok x → DeedR (c' :: rest) d x → SrcP c' → Q d (c' :: rest)) : Rs (semT tb (n + 6) 17 [.own 0, .int kind] (c :: rest)) Q E := by
  refine rs_go (P := pgT tb (semT tb (n + 5))) (np := 2) (N := 3) (ir := ir17) ?_
  walk_at "start"
  unfold ir17
  have h8 : kind = 0 ∨ kind = 1 ∨ kind = 2 ∨ kind = 3 ∨ kind = 4 ∨ kind = 5 ∨ kind = 6 ∨ kind = 7 := by omega
  rcases h8 with rfl | rfl | rfl | rfl | rfl | rfl | rfl | rfl
  · walk_at "go"
    refine s_draw (n + 3) _ c rest (by decide) hc fun r c1 h1 h2 hc1 => ?_
    walk_at "go"
    refine s_draw (n + 3) _ c1 rest (by decide) hc1 fun r2 c2 h3 h4 hc2 => ?_
    walk_at "go"
    obtain ⟨k, rfl⟩ := Int.eq_ofNat_of_zero_le h1
    have e : (2 : Int) + (k : Int) = ((2 + k : Nat) : Int) := by omega
    rw [e]
    refine s_row n (2 + k) _ (by omega) c2 rest hc2 fun g m p c3 hR hc3 => ?_
    walk_at "go"
    exact q (.add g m p) _ c3 hR ⟨_, _, rfl, rfl, rfl⟩ hc3
  · walk_at "go"
    refine s_great (n + 1) c rest hc fun a c1 ha hc1 => ?_
    walk_at "go"
    exact q (.one 1 a) _ c1 ⟨by decide, by decide, ha⟩ rfl hc1
  · walk_at "go"
    refine s_great (n + 1) c rest hc fun a c1 ha hc1 => ?_
    walk_at "go"
    refine s_great (n + 1) c1 rest hc1 fun b c2 hb hc2 => ?_
    walk_at "go"
    exact q (.two 5 a b) _ c2 ⟨by decide, by decide, ha, hb⟩ rfl hc2
  · walk_at "go"
    refine s_great (n + 1) c rest hc fun a c1 ha hc1 => ?_
    walk_at "go"
    exact q (.one 2 a) _ c1 ⟨by decide, by decide, ha⟩ rfl hc1
  · walk_at "go"
    refine s_great (n + 1) c rest hc fun a c1 ha hc1 => ?_
    walk_at "go"
    refine s_great (n + 1) c1 rest hc1 fun b c2 hb hc2 => ?_
    walk_at "go"
    exact q (.two 6 a b) _ c2 ⟨by decide, by decide, ha, hb⟩ rfl hc2
  · walk_at "go"
    refine s_great (n + 1) c rest hc fun a c1 ha hc1 => ?_
    walk_at "go"
    refine s_great (n + 1) c1 rest hc1 fun b c2 hb hc2 => ?_
    walk_at "go"
    exact q (.two 7 a b) _ c2 ⟨by decide, by decide, ha, hb⟩ rfl hc2
  · walk_at "go"
    refine s_great (n + 1) c rest hc fun a c1 ha hc1 => ?_
    walk_at "go"
    exact q (.one 3 a) _ c1 ⟨by decide, by decide, ha⟩ rfl hc1
  · walk_at "go"
    refine s_great (n + 1) c rest hc fun a c1 ha hc1 => ?_
    walk_at "go"
    exact q (.one 4 a) _ c1 ⟨by decide, by decide, ha⟩ rfl hc1
end K86
end
section
set_option maxHeartbeats 1000000
namespace K86
open PySem L2 Lit
local macro_rules | `(tactic| walk_at "vw") => `(tactic| first | rfl | exact view_own (by assumption) | exact view_ownI (by assumption))
local macro_rules | `(tactic| walk_at "op") => `(tactic| first
  | rfl
  | exact mul_r (by first | rfl | exact small_of (by omega))
  | exact mod_r (by omega)
  | exact fdiv_r (by omega)
  | exact add_s (by assumption)
  | exact len_s (by omega)
  | exact str_i (by omega)
  | exact append_g (by omega))
local macro_rules | `(tactic| walk_at "one") => `(tactic| first
  | (with_reducible refine wp_cons ?_) | (with_reducible refine wp_ite ?_) | (with_reducible refine wp_asg ?_) | (with_reducible refine wp_ret ?_) | (with_reducible refine wp_ex ?_) | (with_reducible refine wp_nil ?_)
  | (with_reducible refine wp_bin ?_) | (with_reducible refine wp_cmp ?_) | (with_reducible refine wp_k ?_) | (with_reducible refine wp_ix ?_) | (with_reducible refine wp_bi ?_) | (with_reducible refine wp_not ?_)
  | ((with_reducible refine' wp_v ?h1 ?_); case h1 => rfl) | ((with_reducible refine' wp_vm ?h1 ?_); case h1 => rfl) | ((with_reducible refine' wp_g ?h1 ?_); case h1 => rfl)
  | (with_reducible refine wp_call ?_) | (with_reducible refine sem_call ?_) | (with_reducible refine sem_mk ?_) | (with_reducible refine wp_evc ?_) | (with_reducible refine wp_evc0 ?_) | (with_reducible refine wp_evs ?_) | (with_reducible refine wp_evs0 ?_)
  | (with_reducible refine wp_and ?_) | (with_reducible refine wp_or ?_) | (with_reducible refine wp_andc ?_) | (with_reducible refine wp_orc ?_) | (with_reducible refine wp_and1 ?_) | (with_reducible refine wp_or1 ?_)
  | (with_reducible refine mid_nx ?_) | (with_reducible refine mid_rt ?_) | (with_reducible refine nxt_nx ?_) | (with_reducible refine nxt_rt ?_) | (with_reducible refine fin_rt ?_) | (with_reducible refine fin_nx ?_)
  | (with_reducible refine cap_sh ?_) | (with_reducible refine cap_fr ?_) | ((with_reducible refine' cap_rf ?h1 ?_); case h1 => rfl)
  | ((with_reducible refine asg_sh ?h1 ?_); (case h1 => exact Nat.le_of_ble_eq_true rfl); (try dsimp only [List.set_cons_zero, List.set_cons_succ, Int.reduceToNat])) | ((with_reducible refine asg_fr ?h1 ?_); (case h1 => exact Nat.le_of_ble_eq_true rfl); (try dsimp only [List.set_cons_zero, List.set_cons_succ, Int.reduceToNat]))
  | ((with_reducible refine' two_of ?h1 ?h2 ?h3 ?_); (case h1 => walk_at "vw"); (case h2 => walk_at "vw"); (case h3 => walk_at "op"))
  | ((with_reducible refine' cm_of ?h1 ?h2 ?h3 ?_); (case h1 => walk_at "vw"); (case h2 => walk_at "vw"); (case h3 => walk_at "op"))
  | ((with_reducible refine' bi_of ?h1 ?h2 ?_); (case h1 => walk_at "vw"); (case h2 => walk_at "op"))
  | ((with_reducible refine' not_of ?h1 ?h2 ?_); (case h1 => walk_at "vw"); (case h2 => rfl))
  | (with_reducible refine wp_tup ?_) | (with_reducible refine wp_lst ?_) | (with_reducible refine wp_chn ?_) | (with_reducible refine wp_setix ?_) | (with_reducible refine wp_no ?_) | (with_reducible refine wp_for ?_) | (with_reducible refine wp_lc ?_) | (with_reducible refine wp_isi ?_) | (with_reducible refine wp_ret0 ?_) | (with_reducible refine wp_conds0 ?_) | (with_reducible refine wp_conds ?_)
  | (with_reducible refine turn_nx ?_) | (with_reducible refine turn_rt ?_) | (with_reducible refine turn_bk ?_) | (with_reducible refine turn_ct ?_) | (with_reducible refine wp_me ?_) | (with_reducible refine wp_mu ?_) | (with_reducible refine wp_fld ?_) | (with_reducible refine wp_sl0 ?_) | (with_reducible refine wp_part0 ?_) | (with_reducible refine wp_part rfl ?_) | (with_reducible refine wp_raise ?_) | (with_reducible refine wp_ife ?_) | (with_reducible refine wp_neg ?_) | (with_reducible refine wp_lrng ?_) | (with_reducible refine wp_inv ?_) | (with_reducible refine wp_con ?_) | (with_reducible refine wp_cell ?_)
  | ((with_reducible refine' setix_ce ?h1 ?h2 ?h3 ?_); (case h1 => first | rfl | assumption); (case h2 => walk_at "vw"); (case h3 => rfl); (try dsimp only [List.set_cons_zero, List.set_cons_succ, Int.reduceToNat]))
  | ((with_reducible refine' setix_sl ?h1 ?h2 ?h3 ?_); (case h1 => rfl); (case h2 => walk_at "vw"); (case h3 => first | rfl | assumption); (try dsimp only [List.set_cons_zero, List.set_cons_succ, Int.reduceToNat]))
  | ((with_reducible refine' mu_ce ?h1 ?h2 ?_); (case h1 => first | rfl | assumption); (case h2 => walk_at "op"); (try dsimp only [List.set_cons_zero, List.set_cons_succ, Int.reduceToNat]))
  | ((with_reducible refine' mu_sl ?h1 ?h2 ?_); (case h1 => rfl); (case h2 => walk_at "op"); (try dsimp only [List.set_cons_zero, List.set_cons_succ, Int.reduceToNat]))
  | ((with_reducible refine' me_of ?h1 ?h2 ?h3 ?_); (case h1 => walk_at "vw"); (case h2 => rfl); (case h3 => walk_at "op"))
  | ((with_reducible refine' isi_of ?h1 ?h2 ?_); (case h1 => walk_at "vw"); (case h2 => rfl))
  | ((with_reducible refine' fld_of ?h1 ?h2 ?h3 ?_); (case h1 => walk_at "vw"); (case h2 => first | rfl | decide +kernel); (case h3 => rfl))
  | ((with_reducible refine' sl_of ?h1 ?h2 ?_); (case h1 => walk_at "vw"); (case h2 => walk_at "op"))
  | ((with_reducible refine' int_of ?h1 ?_); (case h1 => walk_at "vw"))
  | ((with_reducible refine' truu_of ?h1 ?h2 ?_); (case h1 => walk_at "vw"); (case h2 => rfl))
  | ((with_reducible refine' asgT_of ?h1 ?h2 ?_); (case h1 => walk_at "vw"); (case h2 => rfl); (try dsimp only [List.set_cons_zero, List.set_cons_succ, Int.reduceToNat]))
  | ((with_reducible refine And.intro ?h1 ?_); (case h1 => first | rfl | exact Nat.le_of_ble_eq_true rfl))
  | (with_reducible refine tr_T ?_) | (with_reducible refine tr_F ?_) | (with_reducible refine bt_T ?_) | (with_reducible refine bt_F ?_)
  | ((with_reducible refine tr_yes ?h1 ?_); case h1 => first | rfl | assumption) | ((with_reducible refine tr_no ?h1 ?_); case h1 => first | rfl | assumption)
  | ((with_reducible refine bt_yes ?h1 ?_); case h1 => first | rfl | assumption) | ((with_reducible refine bt_no ?h1 ?_); case h1 => first | rfl | assumption))
local macro_rules | `(tactic| walk_at "go") => `(tactic| repeat (walk_at "one"))
local macro_rules | `(tactic| walk_at "start") => `(tactic| dsimp only [List.map_cons, List.map_nil, List.length_cons, List.length_nil, Nat.reduceAdd, Nat.reduceSub, List.replicate, List.cons_append, List.nil_append])
local macro_rules | `(tactic| walk_at "gos") => `(tactic| repeat ((fail_if_success (with_reducible refine is_ite ?_)); walk_at "one"))
local macro_rules | `(tactic| walk_at "norm") => `(tactic| simp only [List.set_cons_zero, List.set_cons_succ, List.map_cons, List.map_nil, List.cons_append, List.nil_append, Stt.put])
local macro_rules | `(tactic| walk_at "op") => `(tactic| first | exact len_ints | exact ix_ints (by omega))
local macro_rules | `(tactic| walk_at "op") => `(tactic| first | exact sorted_g | exact ne_ints | exact eq_ints | exact net_ints | exact eqt_ints)
local macro_rules | `(tactic| walk_at "vw") => `(tactic| (show cellV _ _ = some _; assumption))
local macro_rules | `(tactic| walk_at "op") => `(tactic| first | exact in_ints | exact nin_ints | exact len_strs)
local macro_rules | `(tactic| walk_at "one") => `(tactic| ((with_reducible refine' wp_mk ?h1 ?_); case h1 => rfl))
open NumText TL
theorem s_lot (n : Nat) (dg dm : D) (g m : List Int) (p : Int) (cs : List Cell) (hz : Zc0 cs) (hg : cellV cs dg = some (.lst (g.map .int))) (hm : cellV cs dm = some (.lst (m.map .int))) (h : RowP g m p) {Q : D → List Cell → Prop} {E : Exc → List Cell → Prop} (q : Q (lotD g m p) cs) : Rs (semT tb (n + 3) 21 [.tup [dg, dm, .int p]] cs) Q E := by
  have l1 := h.gl2
  have l2 := h.ml2
  refine rs_go (P := pgT tb (semT tb (n + 2))) (np := 1) (N := 1) (ir := ir21) ?_
  walk_at "start"
  unfold ir21
  walk_at "go"
  refine mk_lot2 hz (.inr rfl) (by omega) (by omega) (fun _ cs2 hs => ?_) fun z => absurd h z
  refine ⟨rfl, _, _, hs, ?_⟩
  walk_at "go"
  exact q
theorem lot_low (n : Nat) (g m : List Int) (p : Int) : (([(("lot" : Str), lotD g m p)]).all fun q => low 0 q.2 && ((pgT tb (semT tb n)).fld 8).contains q.1) = true := by
  have h1 : ∀ xs : List Int, lows 0 (xs.map .int) = true := lows_map fun a => by simp [low]
  have c1 : ((pgT tb (semT tb n)).fld 8).contains ("lot" : Str) = true := rfl
  simp only [lotD, List.all_cons, List.all_nil, c1, low, lows, h1, Bool.and_self]
set_option maxHeartbeats 4000000 in
theorem s_made (n : Nat) (d : D) (x : Deed) (cs : List Cell) (hz : Zc0 cs) (hx : x.ok) (hd : DeedR cs d x) {Q : D → List Cell → Prop} {E : Exc → List Cell → Prop} (q : Q x.obj cs) : Rs (semT tb (n + 4) 41 [d] cs) Q E := by
  refine rs_go (P := pgT tb (semT tb (n + 3))) (np := 1) (N := 1) (ir := ir41) ?_
  walk_at "start"
  unfold ir41
  cases x with
  | add g m p =>
    obtain ⟨dg, dm, rfl, h1, h2⟩ := hd
    walk_at "go"
    refine s_lot n dg dm g m p cs hz h1 h2 hx ?_
    walk_at "go"
    refine mk_any (ds := [lotD g m p]) (fun k cs hk Q E q => i32 (n + 2) k 8 (lotD g m p) cs hk rfl q) ?_ rfl hz ?_
    · exact lot_low (n + 3) g m p
    walk_at "go"
    exact q
  | one k a =>
    obtain rfl : d = _ := hd
    obtain ⟨k1, k2, _⟩ := hx
    have h4 : k = 1 ∨ k = 2 ∨ k = 3 ∨ k = 4 := by omega
    rcases h4 with rfl | rfl | rfl | rfl
    · walk_at "go"
      refine mk_any (ds := [.int (a : Int)]) (fun k cs hk Q E q => i26 (n + 2) k 1 _ cs hk rfl q) rfl rfl hz ?_
      walk_at "go"
      exact q
    · walk_at "go"
      refine mk_any (ds := [.int (a : Int)]) (fun k cs hk Q E q => i26 (n + 2) k 2 _ cs hk rfl q) rfl rfl hz ?_
      walk_at "go"
      exact q
    · walk_at "go"
      refine mk_any (ds := [.int (a : Int)]) (fun k cs hk Q E q => i31 (n + 2) k 3 _ cs hk rfl q) rfl rfl hz ?_
      walk_at "go"
      exact q
    · walk_at "go"
      refine mk_any (ds := [.int (a : Int)]) (fun k cs hk Q E q => i30 (n + 2) k 4 _ cs hk rfl q) rfl rfl hz ?_
      walk_at "go"
      exact q
  | two k a b =>
    obtain rfl : d = _ := hd
    obtain ⟨k1, k2, _⟩ := hx
    have h4 : k = 5 ∨ k = 6 ∨ k = 7 := by omega
    rcases h4 with rfl | rfl | rfl
    · walk_at "go"
      refine mk_any (ds := [.int (a : Int), .int (b : Int)]) (fun k cs hk Q E q => i27 (n + 2) k 5 _ _ cs hk rfl rfl q) rfl rfl hz ?_
      walk_at "go"
      exact q
    · walk_at "go"
      refine mk_any (ds := [.int (a : Int), .int (b : Int)]) (fun k cs hk Q E q => i28 (n + 2) k 6 _ _ cs hk rfl rfl q) rfl rfl hz ?_
      walk_at "go"
      exact q
    · walk_at "go"
      refine mk_any (ds := [.int (a : Int), .int (b : Int)]) (fun k cs hk Q E q => i29 (n + 2) k 7 _ _ cs hk rfl rfl q) rfl rfl hz ?_
      walk_at "go"
      exact q
theorem s_label (n : Nat) (x : Deed) (hx : x.ok) : ∃ f c ds, x.obj = .ins c ds ∧ (pgT tb (semT tb (n + 3))).mth c "label" = some f ∧ ∀ (cs : List Cell) {Q : D → List Cell → Prop} {E : Exc → List Cell → Prop}, Q (.str x.txt) cs → Rs (semT tb (n + 3) f [x.obj] cs) Q E := by
  cases x with
  | add g m p => exact ⟨36, 8, _, rfl, rfl, fun cs Q E q => lab36 (n + 1) g m p cs hx (lotText_len hx) q⟩
  | one k a =>
    obtain ⟨k1, k2, ha⟩ := hx
    have h4 : k = 1 ∨ k = 2 ∨ k = 3 ∨ k = 4 := by omega
    rcases h4 with rfl | rfl | rfl | rfl
    · exact ⟨34, 1, _, rfl, rfl, fun cs Q E q => lab34 (n + 1) 1 a [] "drop" cs (by decide +kernel) (by omega) (by omega) rfl rfl rfl rfl q⟩
    · exact ⟨34, 2, _, rfl, rfl, fun cs Q E q => lab34 (n + 1) 2 a [] "release" cs (by decide +kernel) (by omega) (by omega) rfl rfl rfl rfl q⟩
    · exact ⟨37, 3, _, rfl, rfl, fun cs Q E q => lab37 (n + 1) a cs (by omega) (by omega) q⟩
    · exact ⟨35, 4, _, rfl, rfl, fun cs Q E q => lab35 (n + 2) 4 a 0 [.int (a : Int)] 33 "root" cs (by decide +kernel) (by omega) (by omega) rfl rfl rfl (fun {Q E} q => lab33 (n + 1) 4 _ "root" cs rfl rfl q) q⟩
  | two k a b =>
    obtain ⟨k1, k2, ha, hb⟩ := hx
    have h4 : k = 5 ∨ k = 6 ∨ k = 7 := by omega
    have la : (sI (a : Int)).length ≤ 30 := sN_len ha
    have hw : ∀ w : Str, w.length ≤ 7 → (w ++ sp ++ sI (a : Int)).length ≤ 200 := fun w hw => by
      rw [Str.length_append, Str.length_append, sp_len]
      omega
    rcases h4 with rfl | rfl | rfl
    · exact ⟨35, 5, _, rfl, rfl, fun cs Q E q => lab35 (n + 2) 5 b 1 [.int (a : Int), .int (b : Int)] 34 ("tell" ++ sp ++ sI (a : Int)) cs (hw _ (by decide +kernel)) (by omega) (by omega) rfl rfl rfl (fun {Q E} q => lab34 n 5 a [.int (b : Int)] "tell" cs (by decide +kernel) (by omega) (by omega) rfl rfl rfl rfl q) q⟩
    · exact ⟨35, 6, _, rfl, rfl, fun cs Q E q => lab35 (n + 2) 6 b 1 [.int (a : Int), .int (b : Int)] 34 ("join" ++ sp ++ sI (a : Int)) cs (hw _ (by decide +kernel)) (by omega) (by omega) rfl rfl rfl (fun {Q E} q => lab34 n 6 a [.int (b : Int)] "join" cs (by decide +kernel) (by omega) (by omega) rfl rfl rfl rfl q) q⟩
    · exact ⟨35, 7, _, rfl, rfl, fun cs Q E q => lab35 (n + 2) 7 b 1 [.int (a : Int), .int (b : Int)] 34 ("leave" ++ sp ++ sI (a : Int)) cs (hw _ (by decide +kernel)) (by omega) (by omega) rfl rfl rfl (fun {Q E} q => lab34 n 7 a [.int (b : Int)] "leave" cs (by decide +kernel) (by omega) (by omega) rfl rfl rfl rfl q) q⟩
def Same : Deed → Deed → Prop
  | .add g m p, .add g2 m2 p2 => isort g = isort g2 ∧ isort m = isort m2 ∧ p = p2
  | x, y => x = y
def Deed.wds : Deed → List Str
  | .add g m p => "add" :: lotW (isort g) (isort m) p
  | .one k a => [wd k, sN a]
  | .two k a b => [wd k, sN a, sN b]
theorem nosp_add : (32 : Nat) ∉ tl ("add" : Str) := by decide +kernel
theorem sN_nosp (a : Nat) : (32 : Nat) ∉ tl (sN a) := by
  rw [tl_sN]
  exact numL_free (.inl (by decide))
theorem split_txt {x : Deed} (h : x.ok) : Txt.split x.txt sp = x.wds := by
  cases x with
  | add g m p => exact split_lot h "add" nosp_add
  | one k a =>
    have e : Deed.txt (.one k a) = Txt.join sp [wd k, sN a] := (j2 _ _).symm
    rw [e]
    refine split_join tl_sp sp_kind (by simp) fun w hw => ?_
    simp only [List.mem_cons, List.not_mem_nil, or_false] at hw
    rcases hw with rfl | rfl
    · exact wd_nosp k
    · exact sN_nosp a
  | two k a b =>
    have e : Deed.txt (.two k a b) = Txt.join sp [wd k, sN a, sN b] := (j3 _ _ _).symm
    rw [e]
    refine split_join tl_sp sp_kind (by simp) fun w hw => ?_
    simp only [List.mem_cons, List.not_mem_nil, or_false] at hw
    rcases hw with rfl | rfl | rfl
    · exact wd_nosp k
    · exact sN_nosp a
    · exact sN_nosp b
theorem wd_inj {k j : Nat} (h1 : 1 ≤ k ∧ k ≤ 7) (h2 : 1 ≤ j ∧ j ≤ 7) (e : wd k = wd j) : k = j := by
  have a : k = 1 ∨ k = 2 ∨ k = 3 ∨ k = 4 ∨ k = 5 ∨ k = 6 ∨ k = 7 := by omega
  have b : j = 1 ∨ j = 2 ∨ j = 3 ∨ j = 4 ∨ j = 5 ∨ j = 6 ∨ j = 7 := by omega
  have d : ∀ x ∈ [1, 2, 3, 4, 5, 6, 7], ∀ y ∈ [1, 2, 3, 4, 5, 6, 7], wd x = wd y → x = y := by decide +kernel
  exact d k (by simpa using a) j (by simpa using b) e
theorem tail_inj {p q : Int} (h1 : 0 ≤ p) (h2 : 0 ≤ q) (h : tailW p = tailW q) : p = q := by
  unfold tailW at h
  obtain ⟨a, rfl⟩ := Int.eq_ofNat_of_zero_le h1
  obtain ⟨b, rfl⟩ := Int.eq_ofNat_of_zero_le h2
  split at h
  · split at h
    · omega
    · cases h
  · split at h
    · cases h
    · have e := (List.cons.inj (List.cons.inj h).2).1
      rw [sN_inj e]
theorem lotW_inj {g m g2 m2 : List Int} {p p2 : Int} (h : RowP g m p) (h2 : RowP g2 m2 p2) (e : lotW (isort g) (isort m) p = lotW (isort g2) (isort m2) p2) : isort g = isort g2 ∧ isort m = isort m2 ∧ p = p2 := by
  obtain ⟨ps, a1, a2⟩ := lead_lot h
  obtain ⟨qs, b1, b2⟩ := lead_lot h2
  rw [e] at a2
  obtain ⟨i1, i2⟩ := a2.uniq b2
  have eg : isort g = isort g2 := by rw [a1, b1, i1]
  by_cases c1 : isort m = isort g <;> by_cases c2 : isort m2 = isort g2
  · rw [if_pos c1, if_pos c2] at i2
    exact ⟨eg, by rw [c1, c2, eg], tail_inj h.p0 h2.p0 i2⟩
  · rw [if_pos c1, if_neg c2] at i2
    exfalso
    unfold tailW at i2
    split at i2
    · cases i2
    · exact heads_price (List.cons.inj i2).1
  · rw [if_neg c1, if_pos c2] at i2
    exfalso
    have i3 := i2.symm
    unfold tailW at i3
    simp only [List.nil_append, List.cons_append] at i3
    split at i3
    · cases i3
    · exact heads_price (List.cons.inj i3).1
  · rw [if_neg c1, if_neg c2] at i2
    obtain ⟨_, i3⟩ := List.cons.inj i2
    have i3 : (isort m).map sI ++ tailW p = (isort m2).map sI ++ tailW p2 := i3
    obtain ⟨us, u1, u2⟩ := lead_heads h
    obtain ⟨vs, v1, v2⟩ := lead_heads h2
    rw [i3] at u2
    obtain ⟨w1, w2⟩ := u2.uniq v2
    exact ⟨eg, by rw [u1, v1, w1], tail_inj h.p0 h2.p0 w2⟩
theorem same_of {x y : Deed} (hx : x.ok) (hy : y.ok) (e : x.txt = y.txt) : Same x y := by
  have ew : x.wds = y.wds := by rw [← split_txt hx, ← split_txt hy, e]
  cases x with
  | add g m p =>
    cases y with
    | add g2 m2 p2 => exact lotW_inj hx hy (List.cons.inj ew).2
    | one k a => exact absurd (List.cons.inj ew).1.symm (wd_add k)
    | two k a b => exact absurd (List.cons.inj ew).1.symm (wd_add k)
  | one k a =>
    cases y with
    | add g2 m2 p2 => exact absurd (List.cons.inj ew).1 (wd_add k)
    | one j b =>
      obtain ⟨e1, e2⟩ := List.cons.inj ew
      have e3 := sN_inj (List.cons.inj e2).1
      have e4 := wd_inj ⟨hx.1, by have := hx.2.1; omega⟩ ⟨hy.1, by have := hy.2.1; omega⟩ e1
      show Deed.one k a = Deed.one j b
      rw [e3, e4]
    | two j b c => exact absurd (congrArg List.length ew) (by simp [Deed.wds])
  | two k a b =>
    cases y with
    | add g2 m2 p2 => exact absurd (List.cons.inj ew).1 (wd_add k)
    | one j c => exact absurd (congrArg List.length ew) (by simp [Deed.wds])
    | two j c d =>
      obtain ⟨e1, e2⟩ := List.cons.inj ew
      obtain ⟨e5, e6⟩ := List.cons.inj e2
      have e3 := sN_inj e5
      have e7 := sN_inj (List.cons.inj e6).1
      have e4 := wd_inj ⟨by have := hx.1; omega, hx.2.1⟩ ⟨by have := hy.1; omega, hy.2.1⟩ e1
      show Deed.two k a b = Deed.two j c d
      rw [e3, e4, e7]
end K86
end
section
set_option maxHeartbeats 1000000
namespace K86
open PySem L2 Lit
local macro_rules | `(tactic| walk_at "vw") => `(tactic| first | rfl | exact view_own (by assumption) | exact view_ownI (by assumption))
local macro_rules | `(tactic| walk_at "op") => `(tactic| first
  | rfl
  | exact mul_r (by first | rfl | exact small_of (by omega))
  | exact mod_r (by omega)
  | exact fdiv_r (by omega)
  | exact add_s (by assumption)
  | exact len_s (by omega)
  | exact str_i (by omega)
  | exact append_g (by omega))
local macro_rules | `(tactic| walk_at "one") => `(tactic| first
  | (with_reducible refine wp_cons ?_) | (with_reducible refine wp_ite ?_) | (with_reducible refine wp_asg ?_) | (with_reducible refine wp_ret ?_) | (with_reducible refine wp_ex ?_) | (with_reducible refine wp_nil ?_)
  | (with_reducible refine wp_bin ?_) | (with_reducible refine wp_cmp ?_) | (with_reducible refine wp_k ?_) | (with_reducible refine wp_ix ?_) | (with_reducible refine wp_bi ?_) | (with_reducible refine wp_not ?_)
  | ((with_reducible refine' wp_v ?h1 ?_); case h1 => rfl) | ((with_reducible refine' wp_vm ?h1 ?_); case h1 => rfl) | ((with_reducible refine' wp_g ?h1 ?_); case h1 => rfl)
  | (with_reducible refine wp_call ?_) | (with_reducible refine sem_call ?_) | (with_reducible refine sem_mk ?_) | (with_reducible refine wp_evc ?_) | (with_reducible refine wp_evc0 ?_) | (with_reducible refine wp_evs ?_) | (with_reducible refine wp_evs0 ?_)
  | (with_reducible refine wp_and ?_) | (with_reducible refine wp_or ?_) | (with_reducible refine wp_andc ?_) | (with_reducible refine wp_orc ?_) | (with_reducible refine wp_and1 ?_) | (with_reducible refine wp_or1 ?_)
  | (with_reducible refine mid_nx ?_) | (with_reducible refine mid_rt ?_) | (with_reducible refine nxt_nx ?_) | (with_reducible refine nxt_rt ?_) | (with_reducible refine fin_rt ?_) | (with_reducible refine fin_nx ?_)
  | (with_reducible refine cap_sh ?_) | (with_reducible refine cap_fr ?_) | ((with_reducible refine' cap_rf ?h1 ?_); case h1 => rfl)
  | ((with_reducible refine asg_sh ?h1 ?_); (case h1 => exact Nat.le_of_ble_eq_true rfl); (try dsimp only [List.set_cons_zero, List.set_cons_succ, Int.reduceToNat])) | ((with_reducible refine asg_fr ?h1 ?_); (case h1 => exact Nat.le_of_ble_eq_true rfl); (try dsimp only [List.set_cons_zero, List.set_cons_succ, Int.reduceToNat]))
  | ((with_reducible refine' two_of ?h1 ?h2 ?h3 ?_); (case h1 => walk_at "vw"); (case h2 => walk_at "vw"); (case h3 => walk_at "op"))
  | ((with_reducible refine' cm_of ?h1 ?h2 ?h3 ?_); (case h1 => walk_at "vw"); (case h2 => walk_at "vw"); (case h3 => walk_at "op"))
  | ((with_reducible refine' bi_of ?h1 ?h2 ?_); (case h1 => walk_at "vw"); (case h2 => walk_at "op"))
  | ((with_reducible refine' not_of ?h1 ?h2 ?_); (case h1 => walk_at "vw"); (case h2 => rfl))
  | (with_reducible refine wp_tup ?_) | (with_reducible refine wp_lst ?_) | (with_reducible refine wp_chn ?_) | (with_reducible refine wp_setix ?_) | (with_reducible refine wp_no ?_) | (with_reducible refine wp_for ?_) | (with_reducible refine wp_lc ?_) | (with_reducible refine wp_isi ?_) | (with_reducible refine wp_ret0 ?_) | (with_reducible refine wp_conds0 ?_) | (with_reducible refine wp_conds ?_)
  | (with_reducible refine turn_nx ?_) | (with_reducible refine turn_rt ?_) | (with_reducible refine turn_bk ?_) | (with_reducible refine turn_ct ?_) | (with_reducible refine wp_me ?_) | (with_reducible refine wp_mu ?_) | (with_reducible refine wp_fld ?_) | (with_reducible refine wp_sl0 ?_) | (with_reducible refine wp_part0 ?_) | (with_reducible refine wp_part rfl ?_) | (with_reducible refine wp_raise ?_) | (with_reducible refine wp_ife ?_) | (with_reducible refine wp_neg ?_) | (with_reducible refine wp_lrng ?_) | (with_reducible refine wp_inv ?_) | (with_reducible refine wp_con ?_) | (with_reducible refine wp_cell ?_)
  | ((with_reducible refine' setix_ce ?h1 ?h2 ?h3 ?_); (case h1 => first | rfl | assumption); (case h2 => walk_at "vw"); (case h3 => rfl); (try dsimp only [List.set_cons_zero, List.set_cons_succ, Int.reduceToNat]))
  | ((with_reducible refine' setix_sl ?h1 ?h2 ?h3 ?_); (case h1 => rfl); (case h2 => walk_at "vw"); (case h3 => first | rfl | assumption); (try dsimp only [List.set_cons_zero, List.set_cons_succ, Int.reduceToNat]))
  | ((with_reducible refine' mu_ce ?h1 ?h2 ?_); (case h1 => first | rfl | assumption); (case h2 => walk_at "op"); (try dsimp only [List.set_cons_zero, List.set_cons_succ, Int.reduceToNat]))
  | ((with_reducible refine' mu_sl ?h1 ?h2 ?_); (case h1 => rfl); (case h2 => walk_at "op"); (try dsimp only [List.set_cons_zero, List.set_cons_succ, Int.reduceToNat]))
  | ((with_reducible refine' me_of ?h1 ?h2 ?h3 ?_); (case h1 => walk_at "vw"); (case h2 => rfl); (case h3 => walk_at "op"))
  | ((with_reducible refine' isi_of ?h1 ?h2 ?_); (case h1 => walk_at "vw"); (case h2 => rfl))
  | ((with_reducible refine' fld_of ?h1 ?h2 ?h3 ?_); (case h1 => walk_at "vw"); (case h2 => first | rfl | decide +kernel); (case h3 => rfl))
  | ((with_reducible refine' sl_of ?h1 ?h2 ?_); (case h1 => walk_at "vw"); (case h2 => walk_at "op"))
  | ((with_reducible refine' int_of ?h1 ?_); (case h1 => walk_at "vw"))
  | ((with_reducible refine' truu_of ?h1 ?h2 ?_); (case h1 => walk_at "vw"); (case h2 => rfl))
  | ((with_reducible refine' asgT_of ?h1 ?h2 ?_); (case h1 => walk_at "vw"); (case h2 => rfl); (try dsimp only [List.set_cons_zero, List.set_cons_succ, Int.reduceToNat]))
  | ((with_reducible refine And.intro ?h1 ?_); (case h1 => first | rfl | exact Nat.le_of_ble_eq_true rfl))
  | (with_reducible refine tr_T ?_) | (with_reducible refine tr_F ?_) | (with_reducible refine bt_T ?_) | (with_reducible refine bt_F ?_)
  | ((with_reducible refine tr_yes ?h1 ?_); case h1 => first | rfl | assumption) | ((with_reducible refine tr_no ?h1 ?_); case h1 => first | rfl | assumption)
  | ((with_reducible refine bt_yes ?h1 ?_); case h1 => first | rfl | assumption) | ((with_reducible refine bt_no ?h1 ?_); case h1 => first | rfl | assumption))
local macro_rules | `(tactic| walk_at "go") => `(tactic| repeat (walk_at "one"))
local macro_rules | `(tactic| walk_at "start") => `(tactic| dsimp only [List.map_cons, List.map_nil, List.length_cons, List.length_nil, Nat.reduceAdd, Nat.reduceSub, List.replicate, List.cons_append, List.nil_append])
local macro_rules | `(tactic| walk_at "gos") => `(tactic| repeat ((fail_if_success (with_reducible refine is_ite ?_)); walk_at "one"))
local macro_rules | `(tactic| walk_at "norm") => `(tactic| simp only [List.set_cons_zero, List.set_cons_succ, List.map_cons, List.map_nil, List.cons_append, List.nil_append, Stt.put])
local macro_rules | `(tactic| walk_at "op") => `(tactic| first | exact len_ints | exact ix_ints (by omega))
local macro_rules | `(tactic| walk_at "op") => `(tactic| first | exact sorted_g | exact ne_ints | exact eq_ints | exact net_ints | exact eqt_ints)
local macro_rules | `(tactic| walk_at "vw") => `(tactic| (show cellV _ _ = some _; assumption))
local macro_rules | `(tactic| walk_at "op") => `(tactic| first | exact in_ints | exact nin_ints | exact len_strs)
local macro_rules | `(tactic| walk_at "one") => `(tactic| ((with_reducible refine' wp_mk ?h1 ?_); case h1 => rfl))
open NumText TL
open Classical in
noncomputable def figD (most : Nat) (w : Str) : D := if h : ∃ n, Fig most w n then .int ((Classical.choose h : Nat) : Int) else .non
theorem figD_some {most : Nat} {w : Str} {n : Nat} (h : Fig most w n) : figD most w = .int (n : Int) := by
  have h2 : ∃ n, Fig most w n := ⟨n, h⟩
  unfold figD
  rw [dif_pos h2]
  rw [(Classical.choose_spec h2).uniq h]
theorem figD_none {most : Nat} {w : Str} (h : ∀ n, ¬ Fig most w n) : figD most w = .non := by
  unfold figD
  rw [dif_neg fun ⟨n, e⟩ => h n e]
theorem fig_eq {most : Nat} {w : Str} {d : D} (h : FigR most w d) : d = figD most w := by
  rcases h with ⟨n, h, rfl⟩ | ⟨h, rfl⟩
  · rw [figD_some h]
  · rw [figD_none h]
theorem figD_cases (most : Nat) (w : Str) : (∃ n, Fig most w n ∧ figD most w = .int (n : Int)) ∨ ((∀ n, ¬ Fig most w n) ∧ figD most w = .non) := by
  by_cases h : ∃ n, Fig most w n
  · obtain ⟨n, h⟩ := h
    exact .inl ⟨n, h, figD_some h⟩
  · have h2 : ∀ n, ¬ Fig most w n := fun n e => h ⟨n, e⟩
    exact .inr ⟨h2, figD_none h2⟩
def hasNon (ds : List D) : Bool := ds.any fun y => eqFl y .non
theorem flat_figs (most : Nat) (ws : List Str) : (ws.map (figD most)).all isFlat = true := by
  rw [List.all_eq_true]
  intro d hd
  obtain ⟨w, _, rfl⟩ := List.mem_map.mp hd
  rcases figD_cases most w with ⟨n, _, e⟩ | ⟨_, e⟩ <;> rw [e] <;> rfl
theorem in_figs {ds : List D} (h : ds.all isFlat = true) : gCmp .In .non (.lst ds) = some (hasNon ds) := by
  simp only [gCmp, gIn]
  rw [h]
  rfl
theorem nin_figs {ds : List D} (h : ds.all isFlat = true) : gCmp .NotIn .non (.lst ds) = some (!hasNon ds) := by
  have := in_figs h
  simp only [gCmp] at this ⊢
  rw [this]; rfl
theorem all_fig {most : Nat} : ∀ {ws : List Str}, hasNon (ws.map (figD most)) = false → ∃ ns : List Nat, ws = ns.map sN ∧ (∀ n ∈ ns, (sN n).length ≤ most) ∧ ws.map (figD most) = ns.map fun (n : Nat) => D.int (n : Int)
  | [], _ => ⟨[], rfl, by simp, rfl⟩
  | w :: ws, h => by
    simp only [hasNon, List.map_cons, List.any_cons, Bool.or_eq_false_iff] at h
    obtain ⟨ns, h1, h2, h3⟩ := all_fig (most := most) (ws := ws) h.2
    rcases figD_cases most w with ⟨n, hn, e⟩ | ⟨_, e⟩
    · refine ⟨n :: ns, by rw [h1, hn.1]; rfl, fun x hx => ?_, by rw [List.map_cons, h3, e]; rfl⟩
      rcases List.mem_cons.mp hx with rfl | hx
      · rw [← hn.1]; exact hn.2
      · exact h2 x hx
    · rw [e] at h
      exact absurd h.1 (by decide)
theorem figs_of {most : Nat} : ∀ (ns : List Nat), (∀ n ∈ ns, (sN n).length ≤ most) → (ns.map sN).map (figD most) = ns.map fun (n : Nat) => D.int (n : Int)
  | [], _ => rfl
  | n :: ns, h => by
    rw [List.map_cons, List.map_cons, List.map_cons, figs_of ns fun x hx => h x (List.mem_cons_of_mem _ hx)]
    rw [figD_some (most := most) (w := sN n) (n := n) ⟨rfl, h n (by simp)⟩]
theorem has_ints (ns : List Nat) : hasNon (ns.map fun (n : Nat) => D.int (n : Int)) = false := by
  induction ns with
  | nil => rfl
  | cons n ns ih =>
    simp only [hasNon, List.map_cons, List.any_cons, Bool.or_eq_false_iff] at ih ⊢
    exact ⟨rfl, ih⟩
theorem val_lt (l : List Nat) : AllDigits l → digitsVal l < 10 ^ l.length := by
  induction l using snoc_ind with
  | h0 => intro _; decide
  | h1 l c ih =>
    intro h
    have h1 := ih fun x hx => h x (by simp [hx])
    have h2 : 48 ≤ c ∧ c ≤ 57 := h c (by simp)
    rw [val_snoc, List.length_append, List.length_singleton, Nat.pow_succ]
    omega
theorem sN_lt {n k : Nat} (h : (sN n).length ≤ k) : n < 10 ^ k := by
  have h1 := val_lt (numL n) (numL_digits n)
  rw [numL_val] at h1
  have h2 : (numL n).length ≤ k := by
    rw [len_tl, tl_sN] at h
    exact h
  exact Nat.lt_of_lt_of_le h1 (Nat.pow_le_pow_right (by decide) h2)
theorem cut3 {x t : Str} (h : x = "add" ++ t) : cutS x (some 3) none = t := by
  have l : x.length = 3 + t.length := by rw [h, Str.length_append, len_add]
  refine ext_tl ?_
  show ((tl x).drop (HT.sIx x.length 0 (some 3))).take (HT.sIx x.length x.length none - HT.sIx x.length 0 (some 3)) = tl t
  have e1 : HT.sIx x.length 0 (some 3) = 3 := by
    rw [show (3 : Int) = ((3 : Nat) : Int) from rfl, HT.sIx_nat]
    omega
  rw [e1, HT.sIx_none, h, tl_append]
  have e2 : (tl ("add" : Str)).length = 3 := by decide +kernel
  rw [List.drop_append_of_le_length (by omega), List.drop_of_length_le (by omega), List.nil_append]
  refine List.take_of_length_le ?_
  rw [← len_tl, Str.length_append, len_add]
  omega
theorem add_rest {x : Str} {r : List Str} (h : Txt.split x sp = ("add" : Str) :: r) : ∃ t, x = "add" ++ t := by
  have e := StrLaws.join_split x sp
  rw [h] at e
  cases r with
  | nil => exact ⟨"", by rw [← e]; rfl⟩
  | cons y r => exact ⟨sp ++ Str.join sp (y :: r), by rw [← app_assoc, ← e]; rfl⟩
theorem cut_tl {ds : List D} : cutD ds (some 1) none = ds.drop 1 := by
  simp only [cutD]
  have e2 : HT.sIx ds.length ds.length none = ds.length := rfl
  have e1 : HT.sIx ds.length 0 (some 1) = min 1 ds.length := HT.sIx_nat ds.length 0 1
  rw [e1, e2]
  cases ds with
  | nil => rfl
  | cons a r => simp
theorem lot_t {t : Str} {g m : List Int} {p : Int} : "lot" ++ t = "lot" ++ sp ++ lotText g m p ↔ t = sp ++ lotText g m p := by
  constructor
  · intro h
    have h2 := congrArg tl h
    rw [app_assoc, tl_append, tl_append] at h2
    exact ext_tl (List.append_cancel_left h2)
  · intro h
    rw [h, app_assoc]
theorem s_lot_is (n : Nat) (g m g2 m2 : List Int) (p : Int) (dg dm : D) (cs : List Cell) (hR : RowP g m p) (e1 : isort g = isort g2) (e2 : isort m = isort m2) (hg : cellV cs dg = some (.lst (g2.map .int))) (hm : cellV cs dm = some (.lst (m2.map .int))) {Q : D → List Cell → Prop} {E : Exc → List Cell → Prop} (q : Q (.bl true) cs) : Rs (semT tb (n + 4) 22 [lotD g m p, .tup [dg, dm, .int p]] cs) Q E := by
  have l1 := hR.gl2
  have l2 := hR.ml2
  have f1 : ∀ xs : List Int, ∀ d ∈ xs.map D.int, Fl d := fun xs d hd => by
    obtain ⟨x, _, rfl⟩ := List.mem_map.mp hd
    trivial
  have n1 : ((isort g).map D.int).length ≤ 1000 := by rw [List.length_map, (isort_perm g).length_eq]; omega
  have n2 : ((isort m).map D.int).length ≤ 1000 := by rw [List.length_map, (isort_perm m).length_eq]; omega
  refine rs_go (P := pgT tb (semT tb (n + 3))) (np := 2) (N := 2) (ir := ir22) ?_
  walk_at "start"
  unfold ir22 lotD
  walk_at "go"
  rw [← e1]
  refine s_same_tup n _ (f1 _) n1 cs ?_
  walk_at "go"
  refine s_same_int (n + 1) p cs ?_
  walk_at "go"
  rw [← e2]
  refine s_same_tup n _ (f1 _) n2 cs ?_
  walk_at "go"
  exact q
set_option maxHeartbeats 4000000 in
theorem s_is (n : Nat) (x y : Deed) (d : D) (cs : List Cell) (hx : x.ok) (hs : Same x y) (hd : DeedR cs d y) {Q : D → List Cell → Prop} {E : Exc → List Cell → Prop} (q : Q (.bl true) cs) : Rs (semT tb (n + 5) 42 [x.obj, d] cs) Q E := by
  refine rs_go (P := pgT tb (semT tb (n + 4))) (np := 2) (N := 2) (ir := ir42) ?_
  walk_at "start"
  unfold ir42
  cases x with
  | add g m p =>
    cases y with
    | add g2 m2 p2 =>
      obtain ⟨e1, e2, rfl⟩ := hs
      obtain ⟨dg, dm, rfl, h1, h2⟩ := hd
      simp only [Deed.obj]
      walk_at "go"
      refine s_lot_is n g m g2 m2 p dg dm cs hx e1 e2 h1 h2 ?_
      walk_at "go"
      exact q
    | one k a => exact nomatch (show Deed.add g m p = Deed.one k a from hs)
    | two k a b => exact nomatch (show Deed.add g m p = Deed.two k a b from hs)
  | one k a =>
    obtain rfl : Deed.one k a = y := by cases y <;> exact hs
    obtain rfl : d = _ := hd
    obtain ⟨k1, k2, _⟩ := hx
    have h4 : k = 1 ∨ k = 2 ∨ k = 3 ∨ k = 4 := by omega
    rcases h4 with rfl | rfl | rfl | rfl
    all_goals
      simp only [Deed.obj]
      walk_at "go"
      refine s_same_int (n + 2) a cs ?_
      walk_at "go"
      exact q
  | two k a b =>
    obtain rfl : Deed.two k a b = y := by cases y <;> exact hs
    obtain rfl : d = _ := hd
    obtain ⟨k1, k2, _⟩ := hx
    have h4 : k = 5 ∨ k = 6 ∨ k = 7 := by omega
    rcases h4 with rfl | rfl | rfl
    all_goals
      simp only [Deed.obj]
      walk_at "go"
      refine s_same_lst (n + 1) [.int (a : Int), .int (b : Int)] (fun d hd => ?_) (by simp) cs ?_
      · simp only [List.mem_cons, List.not_mem_nil, or_false] at hd
        rcases hd with rfl | rfl <;> trivial
      walk_at "go"
      exact q
theorem s_with_one (n : Nat) (w : Str) (a : Nat) (cs : List Cell) (hz : Zc0 cs) {Q : D → List Cell → Prop} {E : Exc → List Cell → Prop} (q : ∀ k, 1 ≤ k → k ≤ 4 → w = wd k → Q (Deed.one k a).obj cs) (e : (∀ k, 1 ≤ k → k ≤ 4 → w ≠ wd k) → Q .non cs) : Rs (semT tb (n + 3) 24 [.str w, .int (a : Int)] cs) Q E := by
  refine rs_go (P := pgT tb (semT tb (n + 2))) (np := 2) (N := 2) (ir := ir24) ?_
  walk_at "start"
  unfold ir24
  walk_at "go"
  refine tr_dec (fun h1 => ?_) fun h1 => ?_
  · walk_at "go"
    refine mk_any (ds := [.int (a : Int)]) (fun k cs hk Q E q => i26 (n + 1) k 1 _ cs hk rfl q) rfl rfl hz ?_
    walk_at "go"
    exact q 1 (by decide) (by decide) h1
  walk_at "go"
  refine tr_dec (fun h2 => ?_) fun h2 => ?_
  · walk_at "go"
    refine mk_any (ds := [.int (a : Int)]) (fun k cs hk Q E q => i26 (n + 1) k 2 _ cs hk rfl q) rfl rfl hz ?_
    walk_at "go"
    exact q 2 (by decide) (by decide) h2
  walk_at "go"
  refine tr_dec (fun h3 => ?_) fun h3 => ?_
  · walk_at "go"
    refine mk_any (ds := [.int (a : Int)]) (fun k cs hk Q E q => i31 (n + 1) k 3 _ cs hk rfl q) rfl rfl hz ?_
    walk_at "go"
    exact q 3 (by decide) (by decide) h3
  walk_at "go"
  refine tr_dec (fun h4 => ?_) fun h4 => ?_
  · walk_at "go"
    refine mk_any (ds := [.int (a : Int)]) (fun k cs hk Q E q => i30 (n + 1) k 4 _ cs hk rfl q) rfl rfl hz ?_
    walk_at "go"
    exact q 4 (by decide) (by decide) h4
  walk_at "go"
  refine e fun k k1 k2 z => ?_
  have hk : k = 1 ∨ k = 2 ∨ k = 3 ∨ k = 4 := by omega
  rcases hk with rfl | rfl | rfl | rfl
  · exact h1 z
  · exact h2 z
  · exact h3 z
  · exact h4 z
theorem s_with_two (n : Nat) (w : Str) (a b : Nat) (cs : List Cell) (hz : Zc0 cs) {Q : D → List Cell → Prop} {E : Exc → List Cell → Prop} (q : ∀ k, 5 ≤ k → k ≤ 7 → w = wd k → Q (Deed.two k a b).obj cs) (e : (∀ k, 5 ≤ k → k ≤ 7 → w ≠ wd k) → Q .non cs) : Rs (semT tb (n + 3) 25 [.str w, .int (a : Int), .int (b : Int)] cs) Q E := by
  refine rs_go (P := pgT tb (semT tb (n + 2))) (np := 3) (N := 3) (ir := ir25) ?_
  walk_at "start"
  unfold ir25
  walk_at "go"
  refine tr_dec (fun h1 => ?_) fun h1 => ?_
  · walk_at "go"
    refine mk_any (ds := [.int (a : Int), .int (b : Int)]) (fun k cs hk Q E q => i27 (n + 1) k 5 _ _ cs hk rfl rfl q) rfl rfl hz ?_
    walk_at "go"
    exact q 5 (by decide) (by decide) h1
  walk_at "go"
  refine tr_dec (fun h2 => ?_) fun h2 => ?_
  · walk_at "go"
    refine mk_any (ds := [.int (a : Int), .int (b : Int)]) (fun k cs hk Q E q => i28 (n + 1) k 6 _ _ cs hk rfl rfl q) rfl rfl hz ?_
    walk_at "go"
    exact q 6 (by decide) (by decide) h2
  walk_at "go"
  refine tr_dec (fun h3 => ?_) fun h3 => ?_
  · walk_at "go"
    refine mk_any (ds := [.int (a : Int), .int (b : Int)]) (fun k cs hk Q E q => i29 (n + 1) k 7 _ _ cs hk rfl rfl q) rfl rfl hz ?_
    walk_at "go"
    exact q 7 (by decide) (by decide) h3
  walk_at "go"
  refine e fun k k1 k2 z => ?_
  have hk : k = 5 ∨ k = 6 ∨ k = 7 := by omega
  rcases hk with rfl | rfl | rfl
  · exact h1 z
  · exact h2 z
  · exact h3 z
end K86
end
section
set_option maxHeartbeats 1000000
namespace K86
open PySem L2 Lit
local macro_rules | `(tactic| walk_at "vw") => `(tactic| first | rfl | exact view_own (by assumption) | exact view_ownI (by assumption))
local macro_rules | `(tactic| walk_at "op") => `(tactic| first
  | rfl
  | exact mul_r (by first | rfl | exact small_of (by omega))
  | exact mod_r (by omega)
  | exact fdiv_r (by omega)
  | exact add_s (by assumption)
  | exact len_s (by omega)
  | exact str_i (by omega)
  | exact append_g (by omega))
local macro_rules | `(tactic| walk_at "one") => `(tactic| first
  | (with_reducible refine wp_cons ?_) | (with_reducible refine wp_ite ?_) | (with_reducible refine wp_asg ?_) | (with_reducible refine wp_ret ?_) | (with_reducible refine wp_ex ?_) | (with_reducible refine wp_nil ?_)
  | (with_reducible refine wp_bin ?_) | (with_reducible refine wp_cmp ?_) | (with_reducible refine wp_k ?_) | (with_reducible refine wp_ix ?_) | (with_reducible refine wp_bi ?_) | (with_reducible refine wp_not ?_)
  | ((with_reducible refine' wp_v ?h1 ?_); case h1 => rfl) | ((with_reducible refine' wp_vm ?h1 ?_); case h1 => rfl) | ((with_reducible refine' wp_g ?h1 ?_); case h1 => rfl)
  | (with_reducible refine wp_call ?_) | (with_reducible refine sem_call ?_) | (with_reducible refine sem_mk ?_) | (with_reducible refine wp_evc ?_) | (with_reducible refine wp_evc0 ?_) | (with_reducible refine wp_evs ?_) | (with_reducible refine wp_evs0 ?_)
  | (with_reducible refine wp_and ?_) | (with_reducible refine wp_or ?_) | (with_reducible refine wp_andc ?_) | (with_reducible refine wp_orc ?_) | (with_reducible refine wp_and1 ?_) | (with_reducible refine wp_or1 ?_)
  | (with_reducible refine mid_nx ?_) | (with_reducible refine mid_rt ?_) | (with_reducible refine nxt_nx ?_) | (with_reducible refine nxt_rt ?_) | (with_reducible refine fin_rt ?_) | (with_reducible refine fin_nx ?_)
  | (with_reducible refine cap_sh ?_) | (with_reducible refine cap_fr ?_) | ((with_reducible refine' cap_rf ?h1 ?_); case h1 => rfl)
  | ((with_reducible refine asg_sh ?h1 ?_); (case h1 => exact Nat.le_of_ble_eq_true rfl); (try dsimp only [List.set_cons_zero, List.set_cons_succ, Int.reduceToNat])) | ((with_reducible refine asg_fr ?h1 ?_); (case h1 => exact Nat.le_of_ble_eq_true rfl); (try dsimp only [List.set_cons_zero, List.set_cons_succ, Int.reduceToNat]))
  | ((with_reducible refine' two_of ?h1 ?h2 ?h3 ?_); (case h1 => walk_at "vw"); (case h2 => walk_at "vw"); (case h3 => walk_at "op"))
  | ((with_reducible refine' cm_of ?h1 ?h2 ?h3 ?_); (case h1 => walk_at "vw"); (case h2 => walk_at "vw"); (case h3 => walk_at "op"))
  | ((with_reducible refine' bi_of ?h1 ?h2 ?_); (case h1 => walk_at "vw"); (case h2 => walk_at "op"))
  | ((with_reducible refine' not_of ?h1 ?h2 ?_); (case h1 => walk_at "vw"); (case h2 => rfl))
  | (with_reducible refine wp_tup ?_) | (with_reducible refine wp_lst ?_) | (with_reducible refine wp_chn ?_) | (with_reducible refine wp_setix ?_) | (with_reducible refine wp_no ?_) | (with_reducible refine wp_for ?_) | (with_reducible refine wp_lc ?_) | (with_reducible refine wp_isi ?_) | (with_reducible refine wp_ret0 ?_) | (with_reducible refine wp_conds0 ?_) | (with_reducible refine wp_conds ?_)
  | (with_reducible refine turn_nx ?_) | (with_reducible refine turn_rt ?_) | (with_reducible refine turn_bk ?_) | (with_reducible refine turn_ct ?_) | (with_reducible refine wp_me ?_) | (with_reducible refine wp_mu ?_) | (with_reducible refine wp_fld ?_) | (with_reducible refine wp_sl0 ?_) | (with_reducible refine wp_part0 ?_) | (with_reducible refine wp_part rfl ?_) | (with_reducible refine wp_raise ?_) | (with_reducible refine wp_ife ?_) | (with_reducible refine wp_neg ?_) | (with_reducible refine wp_lrng ?_) | (with_reducible refine wp_inv ?_) | (with_reducible refine wp_con ?_) | (with_reducible refine wp_cell ?_)
  | ((with_reducible refine' setix_ce ?h1 ?h2 ?h3 ?_); (case h1 => first | rfl | assumption); (case h2 => walk_at "vw"); (case h3 => rfl); (try dsimp only [List.set_cons_zero, List.set_cons_succ, Int.reduceToNat]))
  | ((with_reducible refine' setix_sl ?h1 ?h2 ?h3 ?_); (case h1 => rfl); (case h2 => walk_at "vw"); (case h3 => first | rfl | assumption); (try dsimp only [List.set_cons_zero, List.set_cons_succ, Int.reduceToNat]))
  | ((with_reducible refine' mu_ce ?h1 ?h2 ?_); (case h1 => first | rfl | assumption); (case h2 => walk_at "op"); (try dsimp only [List.set_cons_zero, List.set_cons_succ, Int.reduceToNat]))
  | ((with_reducible refine' mu_sl ?h1 ?h2 ?_); (case h1 => rfl); (case h2 => walk_at "op"); (try dsimp only [List.set_cons_zero, List.set_cons_succ, Int.reduceToNat]))
  | ((with_reducible refine' me_of ?h1 ?h2 ?h3 ?_); (case h1 => walk_at "vw"); (case h2 => rfl); (case h3 => walk_at "op"))
  | ((with_reducible refine' isi_of ?h1 ?h2 ?_); (case h1 => walk_at "vw"); (case h2 => rfl))
  | ((with_reducible refine' fld_of ?h1 ?h2 ?h3 ?_); (case h1 => walk_at "vw"); (case h2 => first | rfl | decide +kernel); (case h3 => rfl))
  | ((with_reducible refine' sl_of ?h1 ?h2 ?_); (case h1 => walk_at "vw"); (case h2 => walk_at "op"))
  | ((with_reducible refine' int_of ?h1 ?_); (case h1 => walk_at "vw"))
  | ((with_reducible refine' truu_of ?h1 ?h2 ?_); (case h1 => walk_at "vw"); (case h2 => rfl))
  | ((with_reducible refine' asgT_of ?h1 ?h2 ?_); (case h1 => walk_at "vw"); (case h2 => rfl); (try dsimp only [List.set_cons_zero, List.set_cons_succ, Int.reduceToNat]))
  | ((with_reducible refine And.intro ?h1 ?_); (case h1 => first | rfl | exact Nat.le_of_ble_eq_true rfl))
  | (with_reducible refine tr_T ?_) | (with_reducible refine tr_F ?_) | (with_reducible refine bt_T ?_) | (with_reducible refine bt_F ?_)
  | ((with_reducible refine tr_yes ?h1 ?_); case h1 => first | rfl | assumption) | ((with_reducible refine tr_no ?h1 ?_); case h1 => first | rfl | assumption)
  | ((with_reducible refine bt_yes ?h1 ?_); case h1 => first | rfl | assumption) | ((with_reducible refine bt_no ?h1 ?_); case h1 => first | rfl | assumption))
local macro_rules | `(tactic| walk_at "go") => `(tactic| repeat (walk_at "one"))
local macro_rules | `(tactic| walk_at "start") => `(tactic| dsimp only [List.map_cons, List.map_nil, List.length_cons, List.length_nil, Nat.reduceAdd, Nat.reduceSub, List.replicate, List.cons_append, List.nil_append])
local macro_rules | `(tactic| walk_at "gos") => `(tactic| repeat ((fail_if_success (with_reducible refine is_ite ?_)); walk_at "one"))
local macro_rules | `(tactic| walk_at "norm") => `(tactic| simp only [List.set_cons_zero, List.set_cons_succ, List.map_cons, List.map_nil, List.cons_append, List.nil_append, Stt.put])
local macro_rules | `(tactic| walk_at "op") => `(tactic| first | exact len_ints | exact ix_ints (by omega))
local macro_rules | `(tactic| walk_at "op") => `(tactic| first | exact sorted_g | exact ne_ints | exact eq_ints | exact net_ints | exact eqt_ints)
local macro_rules | `(tactic| walk_at "vw") => `(tactic| (show cellV _ _ = some _; assumption))
local macro_rules | `(tactic| walk_at "op") => `(tactic| first | exact in_ints | exact nin_ints | exact len_strs)
local macro_rules | `(tactic| walk_at "one") => `(tactic| ((with_reducible refine' wp_mk ?h1 ?_); case h1 => rfl))
open NumText TL
def None_ (text : Str) : Prop := ∀ x : Deed, x.ok → x.txt ≠ text
theorem is_obj (x : Deed) : gCmp .Is x.obj .non = some false := by cases x <;> rfl
theorem cut_g {x : Str} {lo hi : Option Int} (h : x.length ≤ 16777216) : gSl (.str x) lo hi = some (.sh (.str (cutS x lo hi))) := by
  simp only [gSl]
  rw [if_pos h]
theorem len_lot3 : ("lot" : Str).length = 3 := by decide +kernel
theorem txt_one (k a : Nat) : (Deed.one k a).txt = Str.join sp [wd k, sN a] := by
  rw [← TL.join_eq, j2]; rfl
theorem txt_two (k a b : Nat) : (Deed.two k a b).txt = Str.join sp [wd k, sN a, sN b] := by
  rw [← TL.join_eq, j3]; rfl
theorem ix0 {w0 : Str} {r : List Str} : gIx (.lst ((w0 :: r).map .str)) (.int 0) = some (.sh (.str w0)) := ix_strs (ws := w0 :: r) (i := 0) (by simp)
theorem view_obj (x : Deed) (cs : List Cell) : cellV cs x.obj = some x.obj := by cases x <;> rfl
/-- the words of a deed that adds nothing -/
theorem wds_no_add {x : Deed} {text : Str} {ws : List Str} (hx : x.ok) (e : x.txt = text) (hws : Txt.split text sp = ws) (h0 : ∀ r, ws ≠ ("add" : Str) :: r) :
    (∃ k a, 1 ≤ k ∧ k ≤ 4 ∧ ws = [wd k, sN a] ∧ (sN a).length ≤ 30) ∨ ∃ k a b, 5 ≤ k ∧ k ≤ 7 ∧ ws = [wd k, sN a, sN b] ∧ (sN a).length ≤ 30 ∧ (sN b).length ≤ 30 := by
  have h1 := split_txt hx
  rw [e, hws] at h1
  cases x with
  | add g m p => exact absurd h1 (h0 _)
  | one k a => exact .inl ⟨k, a, hx.1, hx.2.1, h1, sN_len hx.2.2⟩
  | two k a b => exact .inr ⟨k, a, b, hx.1, hx.2.1, h1, sN_len hx.2.2.1, sN_len hx.2.2.2⟩
theorem figs_one {a : Nat} (h : (sN a).length ≤ 30) : [sN a].map (figD 30) = [.int (a : Int)] := figs_of [a] (by simpa using h)
theorem figs_two {a b : Nat} (h : (sN a).length ≤ 30) (h2 : (sN b).length ≤ 30) : [sN a, sN b].map (figD 30) = [.int (a : Int), .int (b : Int)] := figs_of [a, b] (by simp [h, h2])
noncomputable def toFig (most : Nat) : D → D
  | .str w => figD most w
  | d => d
theorem figs_map (most : Nat) (ws : List Str) : (((ws.map D.str).drop 1).filter fun _ => true).map (toFig most) = (ws.drop 1).map (figD most) := by
  rw [List.filter_eq_self.mpr (fun _ _ => rfl), ← List.map_drop, List.map_map]
  rfl
set_option maxHeartbeats 4000000 in
theorem s_edit_in (n : Nat) (text : Str) (hl : text.length ≤ 30000) (cs : List Cell) (hz : Zc0 cs) {Q : D → List Cell → Prop} {E : Exc → List Cell → Prop} (q : ∀ x : Deed, x.ok → x.txt = text → Q x.obj cs) (e : None_ text → E ⟨2, [.int 1]⟩ cs) : Rs (semT tb (n + 4) 39 [.str text, .int 1] cs) Q E := by
  refine rs_go (P := pgT tb (semT tb (n + 3))) (np := 2) (N := 6) (ir := ir39) ?_
  walk_at "start"
  unfold ir39
  refine wp_mid (fun st => st = ⟨[.sh (.str text), .sh (.int 1), .mu ((Txt.split text sp).map .str), .no, .no, .no], cs⟩) ?_ fun st hst => ?_
  · walk_at "go"
    refine me_of rfl rfl (split_g (by omega)) ?_
    walk_at "go"
    rfl
  subst hst
  have hjoin := StrLaws.join_split text sp
  have hwl : ∀ w ∈ Txt.split text sp, w.length ≤ 100000 := fun w hw => by have := split_word hw; omega
  have hcnt := split_cnt text
  generalize hws : Txt.split text sp = ws at *
  cases ws with
  | nil => exact absurd hws (split_ne text)
  | cons w0 r =>
  refine wp_mid (fun st => st = ⟨[.sh (.str text), .sh (.int 1), .mu ((w0 :: r).map .str), .no, .no, .no], cs⟩ ∧ w0 ≠ "add") ?_ fun st hst => ?_
  · walk_at "go"
    refine two_of rfl rfl ix0 ?_
    walk_at "go"
    refine tr_dec (fun h => ?_) fun h => ?_
    · subst h
      obtain ⟨t, ht⟩ := add_rest hws
      have hlt : text.length = 3 + t.length := by rw [ht, Str.length_append, len_add]
      walk_at "go"
      refine sl_of rfl (cut_g (by omega)) ?_
      rw [cut3 ht]
      walk_at "go"
      refine two_of rfl rfl (add_s (x := "lot") (y := t) (by rw [len_lot3]; omega)) ?_
      walk_at "go"
      refine s_lotin n 1 ("lot" ++ t) (by rw [Str.length_append, len_lot3]; omega) cs hz (fun g m p hc => ?_) fun hc => ?_
      · walk_at "go"
        refine mk_any (ds := [lotD g m p]) (fun k cs hk Q E q => i32 (n + 2) k 8 (lotD g m p) cs hk rfl q) (lot_low (n + 3) g m p) rfl hz ?_
        walk_at "go"
        refine q (.add g m p) hc.1 ?_
        rw [ht]
        show "add" ++ sp ++ lotText g m p = _
        rw [app_assoc, lot_t.mp hc.2]
      · refine e fun x hx ex => ?_
        have h1 := split_txt hx
        rw [ex, hws] at h1
        cases x with
        | add g m p =>
          refine hc g m p ⟨hx, lot_t.mpr ?_⟩
          have h2 := congrArg tl (ex.trans ht)
          rw [show Deed.txt (.add g m p) = "add" ++ (sp ++ lotText g m p) from app_assoc _ _ _, tl_append "add", tl_append "add"] at h2
          exact (ext_tl (List.append_cancel_left h2)).symm
        | one k a => exact absurd (List.cons.inj h1).1.symm (wd_add k)
        | two k a b => exact absurd (List.cons.inj h1).1.symm (wd_add k)
    · walk_at "go"
      exact h
  obtain ⟨rfl, h0⟩ := hst
  have h0' : ∀ s, w0 :: r ≠ ("add" : Str) :: s := fun s z => h0 (List.cons.inj z).1
  refine wp_mid (fun st => st = ⟨[.sh (.str text), .sh (.int 1), .mu ((w0 :: r).map .str), .mu (r.map (figD 30)), .no, .no], cs⟩) ?_ fun st hst => ?_
  · walk_at "go"
    rw [cut_tl]
    refine lc_of (fun _ => true) (toFig 30) rfl rfl rfl (by simp at hcnt ⊢; omega) (fun x _ => wp_conds0 ⟨rfl, rfl⟩) (fun x hx _ => ?_) ?_
    · obtain ⟨w, hw, rfl⟩ : ∃ w ∈ w0 :: r, x = .str w := by
        rw [← List.map_drop] at hx
        obtain ⟨w, hw, rfl⟩ := List.mem_map.mp hx
        exact ⟨w, List.mem_of_mem_drop hw, rfl⟩
      walk_at "norm"
      walk_at "go"
      refine s_figures_in (n + 2) w (hwl w hw) cs fun d hd => ?_
      walk_at "go"
      exact ⟨fig_eq hd, rfl⟩
    rw [figs_map]
    walk_at "go"
    rfl
  subst hst
  refine wp_mid (fun st => st = ⟨[.sh (.str text), .sh (.int 1), .mu ((w0 :: r).map .str), .mu (r.map (figD 30)), .sh .non, .no], cs⟩) ?_ fun st hst => ?_
  · walk_at "go"
    rfl
  subst hst
  refine wp_mid (fun st => ∃ d4, st = ⟨[.sh (.str text), .sh (.int 1), .mu ((w0 :: r).map .str), .mu (r.map (figD 30)), .sh d4, .no], cs⟩ ∧ ((∃ x : Deed, x.ok ∧ x.txt = text ∧ d4 = x.obj) ∨ (None_ text ∧ d4 = .non))) ?_ fun st hst => ?_
  · cases hN : hasNon (r.map (figD 30)) with
    | true =>
      have hno : None_ text := fun x hx ex => by
        rcases wds_no_add hx ex hws h0' with ⟨k, a, _, _, h, hl⟩ | ⟨k, a, b, _, _, h, hl, hl2⟩
        · rw [(List.cons.inj h).2, figs_one hl] at hN
          cases hN
        · rw [(List.cons.inj h).2, figs_two hl hl2] at hN
          cases hN
      walk_at "go"
      refine cm_of rfl rfl (nin_figs (flat_figs _ _)) ?_
      rw [hN]
      walk_at "go"
      refine cm_of rfl rfl (nin_figs (flat_figs _ _)) ?_
      rw [hN]
      walk_at "go"
      exact ⟨_, rfl, .inr ⟨hno, rfl⟩⟩
    | false =>
      obtain ⟨ns, e1, e2, e3⟩ := all_fig hN
      have hbad : ns.length ≠ 1 → ns.length ≠ 2 → None_ text := fun z1 z2 x hx ex => by
        rcases wds_no_add hx ex hws h0' with ⟨k, a, _, _, h, hl⟩ | ⟨k, a, b, _, _, h, hl, hl2⟩
        · rw [(List.cons.inj h).2] at e1
          have := congrArg List.length e1
          simp at this
          omega
        · rw [(List.cons.inj h).2] at e1
          have := congrArg List.length e1
          simp at this
          omega
      rw [e3]
      have hfl : (ns.map fun (n : Nat) => D.int (n : Int)).all isFlat = true := by rw [← e3]; exact flat_figs _ _
      have hln : (ns.map fun (n : Nat) => D.int (n : Int)).length = ns.length := List.length_map _
      walk_at "go"
      refine cm_of rfl rfl (nin_figs hfl) ?_
      rw [has_ints]
      walk_at "go"
      rw [hln]
      refine tr_dec (fun h1 => ?_) fun h1 => ?_
      · obtain ⟨a, rfl⟩ : ∃ a, ns = [a] := by
          match ns, (by omega : ns.length = 1) with
          | [a], _ => exact ⟨a, rfl⟩
        subst e1
        have ha : (sN a).length ≤ 30 := e2 a (by simp)
        walk_at "go"
        refine s_with_one n w0 a cs hz (fun k k1 k2 hk => ?_) fun hk => ?_
        · walk_at "go"
          refine ⟨_, rfl, .inl ⟨.one k a, ⟨k1, k2, sN_lt ha⟩, ?_, rfl⟩⟩
          rw [txt_one, ← hk]
          exact hjoin
        · walk_at "go"
          refine ⟨_, rfl, .inr ⟨fun x hx ex => ?_, rfl⟩⟩
          rcases wds_no_add hx ex hws h0' with ⟨k, a, k1, k2, h, hl⟩ | ⟨k, a, b, _, _, h, hl, hl2⟩
          · exact hk k k1 k2 (List.cons.inj h).1
          · exact absurd (congrArg List.length h) (by simp)
      · walk_at "go"
        refine cm_of rfl rfl (nin_figs hfl) ?_
        rw [has_ints]
        walk_at "go"
        rw [hln]
        refine tr_dec (fun h2 => ?_) fun h2 => ?_
        · obtain ⟨a, b, rfl⟩ : ∃ a b, ns = [a, b] := by
            match ns, (by omega : ns.length = 2) with
            | [a, b], _ => exact ⟨a, b, rfl⟩
          subst e1
          have ha : (sN a).length ≤ 30 := e2 a (by simp)
          have hb : (sN b).length ≤ 30 := e2 b (by simp)
          walk_at "go"
          refine s_with_two n w0 a b cs hz (fun k k1 k2 hk => ?_) fun hk => ?_
          · walk_at "go"
            refine ⟨_, rfl, .inl ⟨.two k a b, ⟨k1, k2, sN_lt ha, sN_lt hb⟩, ?_, rfl⟩⟩
            rw [txt_two, ← hk]
            exact hjoin
          · walk_at "go"
            refine ⟨_, rfl, .inr ⟨fun x hx ex => ?_, rfl⟩⟩
            rcases wds_no_add hx ex hws h0' with ⟨k, a, k1, k2, h, hl⟩ | ⟨k, a, b, k1, k2, h, hl, hl2⟩
            · exact absurd (congrArg List.length h) (by simp)
            · exact hk k k1 k2 (List.cons.inj h).1
        · walk_at "go"
          exact ⟨_, rfl, .inr ⟨hbad (by omega) (by omega), rfl⟩⟩
  obtain ⟨d4, rfl, ⟨x, hx, ex, rfl⟩ | ⟨hno, rfl⟩⟩ := hst
  · walk_at "go"
    refine cm_of (view_obj x cs) rfl (is_obj x) ?_
    walk_at "go"
    exact q x hx ex
  · walk_at "go"
    exact ⟨_, rfl, e hno⟩
theorem s_read_edit (n : Nat) (text : Str) (hl : text.length ≤ 30000) (cs : List Cell) (hz : Zc0 cs) {Q : D → List Cell → Prop} {E : Exc → List Cell → Prop} (q : ∀ x : Deed, x.ok → x.txt = text → Q x.obj cs) (e : None_ text → E ⟨2, [.int 1]⟩ cs) : Rs (semT tb (n + 5) 40 [.str text] cs) Q E := by
  refine rs_go (P := pgT tb (semT tb (n + 4))) (np := 1) (N := 1) (ir := ir40) ?_
  walk_at "start"
  unfold ir40
  walk_at "go"
  refine s_edit_in n text hl cs hz (fun x hx ex => ?_) fun hn => ?_
  · walk_at "go"
    exact q x hx ex
  · exact e hn
end K86
end
section
set_option maxHeartbeats 1000000
namespace K86
open PySem L2 Lit
local macro_rules | `(tactic| walk_at "vw") => `(tactic| first | rfl | exact view_own (by assumption) | exact view_ownI (by assumption))
local macro_rules | `(tactic| walk_at "op") => `(tactic| first
  | rfl
  | exact mul_r (by first | rfl | exact small_of (by omega))
  | exact mod_r (by omega)
  | exact fdiv_r (by omega)
  | exact add_s (by assumption)
  | exact len_s (by omega)
  | exact str_i (by omega)
  | exact append_g (by omega))
local macro_rules | `(tactic| walk_at "one") => `(tactic| first
  | (with_reducible refine wp_cons ?_) | (with_reducible refine wp_ite ?_) | (with_reducible refine wp_asg ?_) | (with_reducible refine wp_ret ?_) | (with_reducible refine wp_ex ?_) | (with_reducible refine wp_nil ?_)
  | (with_reducible refine wp_bin ?_) | (with_reducible refine wp_cmp ?_) | (with_reducible refine wp_k ?_) | (with_reducible refine wp_ix ?_) | (with_reducible refine wp_bi ?_) | (with_reducible refine wp_not ?_)
  | ((with_reducible refine' wp_v ?h1 ?_); case h1 => rfl) | ((with_reducible refine' wp_vm ?h1 ?_); case h1 => rfl) | ((with_reducible refine' wp_g ?h1 ?_); case h1 => rfl)
  | (with_reducible refine wp_call ?_) | (with_reducible refine sem_call ?_) | (with_reducible refine sem_mk ?_) | (with_reducible refine wp_evc ?_) | (with_reducible refine wp_evc0 ?_) | (with_reducible refine wp_evs ?_) | (with_reducible refine wp_evs0 ?_)
  | (with_reducible refine wp_and ?_) | (with_reducible refine wp_or ?_) | (with_reducible refine wp_andc ?_) | (with_reducible refine wp_orc ?_) | (with_reducible refine wp_and1 ?_) | (with_reducible refine wp_or1 ?_)
  | (with_reducible refine mid_nx ?_) | (with_reducible refine mid_rt ?_) | (with_reducible refine nxt_nx ?_) | (with_reducible refine nxt_rt ?_) | (with_reducible refine fin_rt ?_) | (with_reducible refine fin_nx ?_)
  | (with_reducible refine cap_sh ?_) | (with_reducible refine cap_fr ?_) | ((with_reducible refine' cap_rf ?h1 ?_); case h1 => rfl)
  | ((with_reducible refine asg_sh ?h1 ?_); (case h1 => exact Nat.le_of_ble_eq_true rfl); (try dsimp only [List.set_cons_zero, List.set_cons_succ, Int.reduceToNat])) | ((with_reducible refine asg_fr ?h1 ?_); (case h1 => exact Nat.le_of_ble_eq_true rfl); (try dsimp only [List.set_cons_zero, List.set_cons_succ, Int.reduceToNat]))
  | ((with_reducible refine' two_of ?h1 ?h2 ?h3 ?_); (case h1 => walk_at "vw"); (case h2 => walk_at "vw"); (case h3 => walk_at "op"))
  | ((with_reducible refine' cm_of ?h1 ?h2 ?h3 ?_); (case h1 => walk_at "vw"); (case h2 => walk_at "vw"); (case h3 => walk_at "op"))
  | ((with_reducible refine' bi_of ?h1 ?h2 ?_); (case h1 => walk_at "vw"); (case h2 => walk_at "op"))
  | ((with_reducible refine' not_of ?h1 ?h2 ?_); (case h1 => walk_at "vw"); (case h2 => rfl))
  | (with_reducible refine wp_tup ?_) | (with_reducible refine wp_lst ?_) | (with_reducible refine wp_chn ?_) | (with_reducible refine wp_setix ?_) | (with_reducible refine wp_no ?_) | (with_reducible refine wp_for ?_) | (with_reducible refine wp_lc ?_) | (with_reducible refine wp_isi ?_) | (with_reducible refine wp_ret0 ?_) | (with_reducible refine wp_conds0 ?_) | (with_reducible refine wp_conds ?_)
  | (with_reducible refine turn_nx ?_) | (with_reducible refine turn_rt ?_) | (with_reducible refine turn_bk ?_) | (with_reducible refine turn_ct ?_) | (with_reducible refine wp_me ?_) | (with_reducible refine wp_mu ?_) | (with_reducible refine wp_fld ?_) | (with_reducible refine wp_sl0 ?_) | (with_reducible refine wp_part0 ?_) | (with_reducible refine wp_part rfl ?_) | (with_reducible refine wp_raise ?_) | (with_reducible refine wp_ife ?_) | (with_reducible refine wp_neg ?_) | (with_reducible refine wp_lrng ?_) | (with_reducible refine wp_inv ?_) | (with_reducible refine wp_con ?_) | (with_reducible refine wp_cell ?_)
  | ((with_reducible refine' setix_ce ?h1 ?h2 ?h3 ?_); (case h1 => first | rfl | assumption); (case h2 => walk_at "vw"); (case h3 => rfl); (try dsimp only [List.set_cons_zero, List.set_cons_succ, Int.reduceToNat]))
  | ((with_reducible refine' setix_sl ?h1 ?h2 ?h3 ?_); (case h1 => rfl); (case h2 => walk_at "vw"); (case h3 => first | rfl | assumption); (try dsimp only [List.set_cons_zero, List.set_cons_succ, Int.reduceToNat]))
  | ((with_reducible refine' mu_ce ?h1 ?h2 ?_); (case h1 => first | rfl | assumption); (case h2 => walk_at "op"); (try dsimp only [List.set_cons_zero, List.set_cons_succ, Int.reduceToNat]))
  | ((with_reducible refine' mu_sl ?h1 ?h2 ?_); (case h1 => rfl); (case h2 => walk_at "op"); (try dsimp only [List.set_cons_zero, List.set_cons_succ, Int.reduceToNat]))
  | ((with_reducible refine' me_of ?h1 ?h2 ?h3 ?_); (case h1 => walk_at "vw"); (case h2 => rfl); (case h3 => walk_at "op"))
  | ((with_reducible refine' isi_of ?h1 ?h2 ?_); (case h1 => walk_at "vw"); (case h2 => rfl))
  | ((with_reducible refine' fld_of ?h1 ?h2 ?h3 ?_); (case h1 => walk_at "vw"); (case h2 => first | rfl | decide +kernel); (case h3 => rfl))
  | ((with_reducible refine' sl_of ?h1 ?h2 ?_); (case h1 => walk_at "vw"); (case h2 => walk_at "op"))
  | ((with_reducible refine' int_of ?h1 ?_); (case h1 => walk_at "vw"))
  | ((with_reducible refine' truu_of ?h1 ?h2 ?_); (case h1 => walk_at "vw"); (case h2 => rfl))
  | ((with_reducible refine' asgT_of ?h1 ?h2 ?_); (case h1 => walk_at "vw"); (case h2 => rfl); (try dsimp only [List.set_cons_zero, List.set_cons_succ, Int.reduceToNat]))
  | ((with_reducible refine And.intro ?h1 ?_); (case h1 => first | rfl | exact Nat.le_of_ble_eq_true rfl))
  | (with_reducible refine tr_T ?_) | (with_reducible refine tr_F ?_) | (with_reducible refine bt_T ?_) | (with_reducible refine bt_F ?_)
  | ((with_reducible refine tr_yes ?h1 ?_); case h1 => first | rfl | assumption) | ((with_reducible refine tr_no ?h1 ?_); case h1 => first | rfl | assumption)
  | ((with_reducible refine bt_yes ?h1 ?_); case h1 => first | rfl | assumption) | ((with_reducible refine bt_no ?h1 ?_); case h1 => first | rfl | assumption))
local macro_rules | `(tactic| walk_at "go") => `(tactic| repeat (walk_at "one"))
local macro_rules | `(tactic| walk_at "start") => `(tactic| dsimp only [List.map_cons, List.map_nil, List.length_cons, List.length_nil, Nat.reduceAdd, Nat.reduceSub, List.replicate, List.cons_append, List.nil_append])
local macro_rules | `(tactic| walk_at "gos") => `(tactic| repeat ((fail_if_success (with_reducible refine is_ite ?_)); walk_at "one"))
local macro_rules | `(tactic| walk_at "norm") => `(tactic| simp only [List.set_cons_zero, List.set_cons_succ, List.map_cons, List.map_nil, List.cons_append, List.nil_append, Stt.put])
local macro_rules | `(tactic| walk_at "op") => `(tactic| first | exact len_ints | exact ix_ints (by omega))
local macro_rules | `(tactic| walk_at "op") => `(tactic| first | exact sorted_g | exact ne_ints | exact eq_ints | exact net_ints | exact eqt_ints)
local macro_rules | `(tactic| walk_at "vw") => `(tactic| (show cellV _ _ = some _; assumption))
local macro_rules | `(tactic| walk_at "op") => `(tactic| first | exact in_ints | exact nin_ints | exact len_strs)
local macro_rules | `(tactic| walk_at "one") => `(tactic| ((with_reducible refine' wp_mk ?h1 ?_); case h1 => rfl))
open NumText TL
structure LS where
  pt : Nat
  a : List Str
  b : List Str
  c : List Str
def LS.app (s : LS) (ws : List Str) : LS := match s.pt with
  | 0 => { s with a := s.a ++ ws }
  | 1 => { s with b := s.b ++ ws }
  | _ => { s with c := s.c ++ ws }
def mst (s : LS) (w : Str) : LS := if w = "heads" ∧ s.pt = 0 then { s with pt := 1 } else if w = "price" ∧ s.pt < 2 then { s with pt := 2 } else s.app [w]
def LS.z : LS := ⟨0, [], [], []⟩
theorem app_app (s : LS) (v w : List Str) : (s.app v).app w = s.app (v ++ w) := by
  obtain ⟨pt, a, b, c⟩ := s
  match pt with
  | 0 => simp [LS.app]
  | 1 => simp [LS.app]
  | n + 2 => simp [LS.app]
theorem app_nil (s : LS) : s.app [] = s := by
  obtain ⟨pt, a, b, c⟩ := s
  match pt with
  | 0 => simp [LS.app]
  | 1 => simp [LS.app]
  | n + 2 => simp [LS.app]
theorem fold_words : ∀ (ws : List Str) (s : LS), (∀ w ∈ ws, w ≠ "heads" ∧ w ≠ "price") → ws.foldl mst s = s.app ws
  | [], s, _ => (app_nil s).symm
  | w :: ws, s, h => by
    obtain ⟨h1, h2⟩ := h w (by simp)
    have e : mst s w = s.app [w] := by
      unfold mst
      rw [if_neg (fun z => h1 z.1), if_neg (fun z => h2 z.1)]
    rw [List.foldl_cons, e, fold_words ws _ fun x hx => h x (List.mem_cons_of_mem _ hx), app_app]
    rfl
theorem words_no {xs : List Int} (h : ∀ x ∈ xs, 0 ≤ x) : ∀ w ∈ xs.map sI, w ≠ "heads" ∧ w ≠ "price" := fun w hw => by
  obtain ⟨x, hx, rfl⟩ := List.mem_map.mp hw
  obtain ⟨n, rfl⟩ := Int.eq_ofNat_of_zero_le (h x hx)
  exact ⟨fun z => heads_no n z.symm, fun z => price_no n z.symm⟩
theorem heads_ne : ¬ (("heads" : Str) = "price") := fun z => heads_price z.symm
theorem fold_tail (s : LS) (hs : s.pt < 2) (p : Int) (hp : 0 ≤ p) : ∃ pt, (tailW p).foldl mst s = ⟨pt, s.a, s.b, if p = 0 then s.c else s.c ++ [sI p]⟩ := by
  unfold tailW
  by_cases h : p = 0
  · rw [if_pos h, if_pos h]
    exact ⟨_, rfl⟩
  · rw [if_neg h, if_neg h]
    have e : mst s "price" = { s with pt := 2 } := by
      unfold mst
      rw [if_neg fun z => heads_price z.1, if_pos ⟨rfl, hs⟩]
    rw [List.foldl_cons, e, fold_words [sI p] _ (words_no (xs := [p]) (by simpa using hp))]
    exact ⟨_, rfl⟩
theorem fold_lot {g m : List Int} {p : Int} (h : RowP g m p) : ∃ pt, (lotW (isort g) (isort m) p).foldl mst LS.z = ⟨pt, (isort g).map sI, if isort m = isort g then [] else (isort m).map sI, if p = 0 then [] else [sI p]⟩ := by
  have hg : ∀ x ∈ isort g, 0 ≤ x := fun x hx => (isort_r h.gr x hx).1
  have hm : ∀ x ∈ isort m, 0 ≤ x := fun x hx => (isort_r h.mr x hx).1
  have e1 : ((isort g).map sI).foldl mst LS.z = ⟨0, (isort g).map sI, [], []⟩ := by
    rw [fold_words _ _ (words_no hg)]
    rfl
  have et : (if p = 0 then [] else [("price" : Str), sI p]) = tailW p := rfl
  unfold lotW
  rw [et, List.foldl_append, List.foldl_append, e1]
  by_cases c1 : isort m = isort g
  · rw [if_pos c1, if_pos c1, List.foldl_nil]
    obtain ⟨pt, e⟩ := fold_tail ⟨0, (isort g).map sI, [], []⟩ (by simp) p h.p0
    refine ⟨pt, ?_⟩
    rw [e]
    rfl
  · rw [if_neg c1, if_neg c1, List.foldl_cons]
    have e2 : mst ⟨0, (isort g).map sI, [], []⟩ "heads" = ⟨1, (isort g).map sI, [], []⟩ := by
      unfold mst
      rw [if_pos ⟨rfl, rfl⟩]
    rw [e2, fold_words _ _ (words_no hm)]
    obtain ⟨pt, e⟩ := fold_tail (LS.app ⟨1, (isort g).map sI, [], []⟩ ((isort m).map sI)) (by show (1 : Nat) < 2; decide) p h.p0
    refine ⟨pt, ?_⟩
    rw [e]
    rfl
theorem hasNon_app (x y : List D) : hasNon (x ++ y) = (hasNon x || hasNon y) := by
  unfold hasNon
  rw [List.any_append]
theorem add_l {a b : List D} (h : a.length + b.length ≤ 16777216) : gBin .Add (.lst a) (.lst b) = some (.fr (a ++ b)) := by
  simp only [gBin, gAdd]
  rw [if_pos h]
theorem nI_map (ns : List Nat) : (ns.map fun (n : Nat) => D.int (n : Int)) = (nI ns).map .int := by
  rw [List.map_map]
  rfl
theorem imax_le : ∀ (xs : List Int) (x b : Int), imax x xs ≤ b ↔ x ≤ b ∧ ∀ y ∈ xs, y ≤ b
  | [], x, b => by simp [imax]
  | y :: r, x, b => by
    unfold imax
    rw [imax_le r]
    simp only [List.mem_cons, forall_eq_or_imp]
    split <;> constructor <;> rintro ⟨h1, h2⟩
    · exact ⟨by omega, h1, h2⟩
    · exact ⟨h2.1, h2.2⟩
    · exact ⟨h1, by omega, h2⟩
    · exact ⟨h1, h2.2⟩
theorem max_g {x : Int} {xs : List Int} : gBi .max [.lst ((x :: xs).map .int)] = some (.sh (.int (imax x xs))) := by
  simp only [gBi, ints_of]
theorem nI_sI {ns : List Nat} : ns.map sN = (nI ns).map sI := by
  rw [List.map_map]
  rfl
theorem sI_inj : ∀ {xs ys : List Int}, (∀ x ∈ xs, 0 ≤ x) → (∀ y ∈ ys, 0 ≤ y) → xs.map sI = ys.map sI → xs = ys
  | [], [], _, _, _ => rfl
  | x :: xs, y :: ys, hx, hy, h => by
    obtain ⟨h1, h2⟩ := List.cons.inj h
    obtain ⟨a, ea⟩ := Int.eq_ofNat_of_zero_le (hx x (by simp))
    obtain ⟨b, eb⟩ := Int.eq_ofNat_of_zero_le (hy y (by simp))
    rw [ea, eb] at h1
    rw [sI_inj (fun z hz => hx z (List.mem_cons_of_mem _ hz)) (fun z hz => hy z (List.mem_cons_of_mem _ hz)) h2, ea, eb, sN_inj h1]
  | [], _ :: _, _, _, h => nomatch h
  | _ :: _, [], _, _, h => nomatch h
end K86
end
section
set_option maxHeartbeats 1000000
namespace K86
open PySem L2 Lit
local macro_rules | `(tactic| walk_at "vw") => `(tactic| first | rfl | exact view_own (by assumption) | exact view_ownI (by assumption))
local macro_rules | `(tactic| walk_at "op") => `(tactic| first
  | rfl
  | exact mul_r (by first | rfl | exact small_of (by omega))
  | exact mod_r (by omega)
  | exact fdiv_r (by omega)
  | exact add_s (by assumption)
  | exact len_s (by omega)
  | exact str_i (by omega)
  | exact append_g (by omega))
local macro_rules | `(tactic| walk_at "one") => `(tactic| first
  | (with_reducible refine wp_cons ?_) | (with_reducible refine wp_ite ?_) | (with_reducible refine wp_asg ?_) | (with_reducible refine wp_ret ?_) | (with_reducible refine wp_ex ?_) | (with_reducible refine wp_nil ?_)
  | (with_reducible refine wp_bin ?_) | (with_reducible refine wp_cmp ?_) | (with_reducible refine wp_k ?_) | (with_reducible refine wp_ix ?_) | (with_reducible refine wp_bi ?_) | (with_reducible refine wp_not ?_)
  | ((with_reducible refine' wp_v ?h1 ?_); case h1 => rfl) | ((with_reducible refine' wp_vm ?h1 ?_); case h1 => rfl) | ((with_reducible refine' wp_g ?h1 ?_); case h1 => rfl)
  | (with_reducible refine wp_call ?_) | (with_reducible refine sem_call ?_) | (with_reducible refine sem_mk ?_) | (with_reducible refine wp_evc ?_) | (with_reducible refine wp_evc0 ?_) | (with_reducible refine wp_evs ?_) | (with_reducible refine wp_evs0 ?_)
  | (with_reducible refine wp_and ?_) | (with_reducible refine wp_or ?_) | (with_reducible refine wp_andc ?_) | (with_reducible refine wp_orc ?_) | (with_reducible refine wp_and1 ?_) | (with_reducible refine wp_or1 ?_)
  | (with_reducible refine mid_nx ?_) | (with_reducible refine mid_rt ?_) | (with_reducible refine nxt_nx ?_) | (with_reducible refine nxt_rt ?_) | (with_reducible refine fin_rt ?_) | (with_reducible refine fin_nx ?_)
  | (with_reducible refine cap_sh ?_) | (with_reducible refine cap_fr ?_) | ((with_reducible refine' cap_rf ?h1 ?_); case h1 => rfl)
  | ((with_reducible refine asg_sh ?h1 ?_); (case h1 => exact Nat.le_of_ble_eq_true rfl); (try dsimp only [List.set_cons_zero, List.set_cons_succ, Int.reduceToNat])) | ((with_reducible refine asg_fr ?h1 ?_); (case h1 => exact Nat.le_of_ble_eq_true rfl); (try dsimp only [List.set_cons_zero, List.set_cons_succ, Int.reduceToNat]))
  | ((with_reducible refine' two_of ?h1 ?h2 ?h3 ?_); (case h1 => walk_at "vw"); (case h2 => walk_at "vw"); (case h3 => walk_at "op"))
  | ((with_reducible refine' cm_of ?h1 ?h2 ?h3 ?_); (case h1 => walk_at "vw"); (case h2 => walk_at "vw"); (case h3 => walk_at "op"))
  | ((with_reducible refine' bi_of ?h1 ?h2 ?_); (case h1 => walk_at "vw"); (case h2 => walk_at "op"))
  | ((with_reducible refine' not_of ?h1 ?h2 ?_); (case h1 => walk_at "vw"); (case h2 => rfl))
  | (with_reducible refine wp_tup ?_) | (with_reducible refine wp_lst ?_) | (with_reducible refine wp_chn ?_) | (with_reducible refine wp_setix ?_) | (with_reducible refine wp_no ?_) | (with_reducible refine wp_for ?_) | (with_reducible refine wp_lc ?_) | (with_reducible refine wp_isi ?_) | (with_reducible refine wp_ret0 ?_) | (with_reducible refine wp_conds0 ?_) | (with_reducible refine wp_conds ?_)
  | (with_reducible refine turn_nx ?_) | (with_reducible refine turn_rt ?_) | (with_reducible refine turn_bk ?_) | (with_reducible refine turn_ct ?_) | (with_reducible refine wp_me ?_) | (with_reducible refine wp_mu ?_) | (with_reducible refine wp_fld ?_) | (with_reducible refine wp_sl0 ?_) | (with_reducible refine wp_part0 ?_) | (with_reducible refine wp_part rfl ?_) | (with_reducible refine wp_raise ?_) | (with_reducible refine wp_ife ?_) | (with_reducible refine wp_neg ?_) | (with_reducible refine wp_lrng ?_) | (with_reducible refine wp_inv ?_) | (with_reducible refine wp_con ?_) | (with_reducible refine wp_cell ?_)
  | ((with_reducible refine' setix_ce ?h1 ?h2 ?h3 ?_); (case h1 => first | rfl | assumption); (case h2 => walk_at "vw"); (case h3 => rfl); (try dsimp only [List.set_cons_zero, List.set_cons_succ, Int.reduceToNat]))
  | ((with_reducible refine' setix_sl ?h1 ?h2 ?h3 ?_); (case h1 => rfl); (case h2 => walk_at "vw"); (case h3 => first | rfl | assumption); (try dsimp only [List.set_cons_zero, List.set_cons_succ, Int.reduceToNat]))
  | ((with_reducible refine' mu_ce ?h1 ?h2 ?_); (case h1 => first | rfl | assumption); (case h2 => walk_at "op"); (try dsimp only [List.set_cons_zero, List.set_cons_succ, Int.reduceToNat]))
  | ((with_reducible refine' mu_sl ?h1 ?h2 ?_); (case h1 => rfl); (case h2 => walk_at "op"); (try dsimp only [List.set_cons_zero, List.set_cons_succ, Int.reduceToNat]))
  | ((with_reducible refine' me_of ?h1 ?h2 ?h3 ?_); (case h1 => walk_at "vw"); (case h2 => rfl); (case h3 => walk_at "op"))
  | ((with_reducible refine' isi_of ?h1 ?h2 ?_); (case h1 => walk_at "vw"); (case h2 => rfl))
  | ((with_reducible refine' fld_of ?h1 ?h2 ?h3 ?_); (case h1 => walk_at "vw"); (case h2 => first | rfl | decide +kernel); (case h3 => rfl))
  | ((with_reducible refine' sl_of ?h1 ?h2 ?_); (case h1 => walk_at "vw"); (case h2 => walk_at "op"))
  | ((with_reducible refine' int_of ?h1 ?_); (case h1 => walk_at "vw"))
  | ((with_reducible refine' truu_of ?h1 ?h2 ?_); (case h1 => walk_at "vw"); (case h2 => rfl))
  | ((with_reducible refine' asgT_of ?h1 ?h2 ?_); (case h1 => walk_at "vw"); (case h2 => rfl); (try dsimp only [List.set_cons_zero, List.set_cons_succ, Int.reduceToNat]))
  | ((with_reducible refine And.intro ?h1 ?_); (case h1 => first | rfl | exact Nat.le_of_ble_eq_true rfl))
  | (with_reducible refine tr_T ?_) | (with_reducible refine tr_F ?_) | (with_reducible refine bt_T ?_) | (with_reducible refine bt_F ?_)
  | ((with_reducible refine tr_yes ?h1 ?_); case h1 => first | rfl | assumption) | ((with_reducible refine tr_no ?h1 ?_); case h1 => first | rfl | assumption)
  | ((with_reducible refine bt_yes ?h1 ?_); case h1 => first | rfl | assumption) | ((with_reducible refine bt_no ?h1 ?_); case h1 => first | rfl | assumption))
local macro_rules | `(tactic| walk_at "go") => `(tactic| repeat (walk_at "one"))
local macro_rules | `(tactic| walk_at "start") => `(tactic| dsimp only [List.map_cons, List.map_nil, List.length_cons, List.length_nil, Nat.reduceAdd, Nat.reduceSub, List.replicate, List.cons_append, List.nil_append])
local macro_rules | `(tactic| walk_at "gos") => `(tactic| repeat ((fail_if_success (with_reducible refine is_ite ?_)); walk_at "one"))
local macro_rules | `(tactic| walk_at "norm") => `(tactic| simp only [List.set_cons_zero, List.set_cons_succ, List.map_cons, List.map_nil, List.cons_append, List.nil_append, Stt.put])
local macro_rules | `(tactic| walk_at "op") => `(tactic| first | exact len_ints | exact ix_ints (by omega))
local macro_rules | `(tactic| walk_at "op") => `(tactic| first | exact sorted_g | exact ne_ints | exact eq_ints | exact net_ints | exact eqt_ints)
local macro_rules | `(tactic| walk_at "vw") => `(tactic| (show cellV _ _ = some _; assumption))
local macro_rules | `(tactic| walk_at "op") => `(tactic| first | exact in_ints | exact nin_ints | exact len_strs)
local macro_rules | `(tactic| walk_at "one") => `(tactic| ((with_reducible refine' wp_mk ?h1 ?_); case h1 => rfl))
open NumText TL
noncomputable def LS.cel (s : LS) : List Cell := [.lst (s.a.map (figD 10)), .lst (s.b.map (figD 10)), .lst (s.c.map (figD 10))]
theorem c0 {cs : List Cell} {x y z : Cell} : (cs ++ [x, y, z])[cs.length]? = some x := by simp
theorem c1 {cs : List Cell} {x y z : Cell} : (cs ++ [x, y, z])[cs.length + 1]? = some y := by simp [List.getElem?_append_right]
theorem c2 {cs : List Cell} {x y z : Cell} : (cs ++ [x, y, z])[cs.length + 2]? = some z := by simp [List.getElem?_append_right]
theorem set0 {cs : List Cell} {x y z w : Cell} : (cs ++ [x, y, z]).set cs.length w = cs ++ [w, y, z] := by simp [List.set_append_right]
theorem set1 {cs : List Cell} {x y z w : Cell} : (cs ++ [x, y, z]).set (cs.length + 1) w = cs ++ [x, w, z] := by simp [List.set_append_right]
theorem set2 {cs : List Cell} {x y z w : Cell} : (cs ++ [x, y, z]).set (cs.length + 2) w = cs ++ [x, y, w] := by simp [List.set_append_right]
theorem pt_cell (cs : List Cell) (s : LS) (h : s.pt ≤ 2) {N : Nat} (hN : s.a.length ≤ N ∧ s.b.length ≤ N ∧ s.c.length ≤ N) : ∃ xs : List D, (cs ++ s.cel)[cs.length + s.pt]? = some (.lst xs) ∧ xs.length ≤ N ∧ ∀ w, (cs ++ s.cel).set (cs.length + s.pt) (.lst (xs ++ [figD 10 w])) = cs ++ (s.app [w]).cel := by
  obtain ⟨pt, a, b, c⟩ := s
  match pt, h with
  | 0, _ => exact ⟨_, c0, by simpa using hN.1, fun w => by simp only [LS.cel, LS.app, List.map_append, List.map_cons, List.map_nil]; exact set0⟩
  | 1, _ => exact ⟨_, c1, by simpa using hN.2.1, fun w => by simp only [LS.cel, LS.app, List.map_append, List.map_cons, List.map_nil]; exact set1⟩
  | 2, _ => exact ⟨_, c2, by simpa using hN.2.2, fun w => by simp only [LS.cel, LS.app, List.map_append, List.map_cons, List.map_nil]; exact set2⟩
theorem app_pt (s : LS) (w : List Str) : (s.app w).pt = s.pt := by
  obtain ⟨pt, a, b, c⟩ := s
  match pt with
  | 0 => rfl
  | 1 => rfl
  | n + 2 => rfl
theorem app_len (s : LS) (w : Str) {N : Nat} (hN : s.a.length ≤ N ∧ s.b.length ≤ N ∧ s.c.length ≤ N) : (s.app [w]).a.length ≤ N + 1 ∧ (s.app [w]).b.length ≤ N + 1 ∧ (s.app [w]).c.length ≤ N + 1 := by
  obtain ⟨pt, a, b, c⟩ := s
  match pt with
  | 0 => simp [LS.app] at *; omega
  | 1 => simp [LS.app] at *; omega
  | n + 2 => simp [LS.app] at *; omega
theorem ix_own (k p : Nat) (h : p ≤ 2) : gIx (.lst [.own k, .own (k + 1), .own (k + 2)]) (.int (p : Int)) = some (.sh (.own (k + p))) := by
  match p, h with
  | 0, _ => rfl
  | 1, _ => rfl
  | 2, _ => rfl
theorem vw_cell {s : Stt} {n : Nat} {xs : List D} (h : s.cs[n]? = some (.lst xs)) : ((view s (setl (.sh (.own n)))).any (tyM .append)) = true := by
  simp only [setl, view, cellV, h]
  rfl
/-- the loop's part -/
def LI (ws : List Str) (cs : List Cell) (pre : List Str) (st : Stt) : Prop := ∃ (s : LS) (sl : Sl), pre.foldl mst LS.z = s ∧ s.pt ≤ 2 ∧ (s.a.length ≤ pre.length ∧ s.b.length ≤ pre.length ∧ s.c.length ≤ pre.length) ∧ isMu sl = false ∧
  st = ⟨[.sh (.lst (ws.map .str)), .mu [.own cs.length, .own (cs.length + 1), .own (cs.length + 2)], .sh (.int (s.pt : Int)), sl, .no, .no, .no, .no, .no, .no], cs ++ s.cel⟩
theorem li_step {ws : List Str} {cs : List Cell} {pre : List Str} {w : Str} {s : LS} {st : Stt} (hp : pre.foldl mst LS.z = s) (hpt : (mst s w).pt ≤ 2) (hN : (mst s w).a.length ≤ pre.length + 1 ∧ (mst s w).b.length ≤ pre.length + 1 ∧ (mst s w).c.length ≤ pre.length + 1)
    (he : st = ⟨[.sh (.lst (ws.map .str)), .mu [.own cs.length, .own (cs.length + 1), .own (cs.length + 2)], .sh (.int ((mst s w).pt : Int)), .sh (.str w), .no, .no, .no, .no, .no, .no], cs ++ (mst s w).cel⟩) : LI ws cs (pre ++ [w]) st := by
  refine ⟨mst s w, .sh (.str w), ?_, hpt, ?_, rfl, he⟩
  · rw [List.foldl_append, hp]
    rfl
  · rw [List.length_append]
    exact hN
set_option maxHeartbeats 4000000 in
theorem lr_loop (n : Nat) (ws : List Str) (hl : ws.length ≤ 40000) (hwl : ∀ w ∈ ws, w.length ≤ 100000) (cs : List Cell) {E : Exc → Stt → Prop} (pre : List Str) (w : Str) (post : List Str) (st : Stt) (hws : ws = pre ++ w :: post) (h : LI ws cs pre st) {Q : Flow' → Stt → Prop} :
    Wp (exs (pgT tb (semT tb (n + 1))) (.cons (.ite (.and (.cons (.cmp .Eq (.v 3) (.k (.str "heads"))) (.cons (.cmp .Eq (.v 2) (.k (.int 0))) .nil))) (.cons (.asg 2 (.k (.int 1))) .nil) (.cons (.ite (.and (.cons (.cmp .Eq (.v 3) (.k (.str "price"))) (.cons (.cmp .Lt (.v 2) (.k (.int 2))) .nil))) (.cons (.asg 2 (.k (.int 2))) .nil) (.cons (.ex (.mu .append (.ix (.v 1) (.v 2)) (.cons (.call 19 (.cons (.v 3) (.cons (.k (.int 10)) .nil))) .nil))) .nil)) .nil)) .nil) (st.put 3 (.sh (.str w)))) (Turn Q (LI ws cs (pre ++ [w]))) E := by
  obtain ⟨s, sl, hp, hpt, hN, hsl, rfl⟩ := h
  have hw : w ∈ ws := by rw [hws]; simp
  have hlen : pre.length ≤ 40000 := by
    have := congrArg List.length hws
    simp at this
    omega
  obtain ⟨xs, hcell, hxl, hset⟩ := pt_cell cs s hpt hN
  show Wp (exs _ _ ⟨[_, _, _, .sh (.str w), _, _, _, _, _, _], _⟩) _ _
  walk_at "go"
  refine bt_dec (fun h1 => ?_) fun h1 => ?_
  · walk_at "go"
    refine tr_dec (fun h2 => ?_) fun h2 => ?_
    · walk_at "go"
      have em : mst s w = { s with pt := 1 } := by
        unfold mst
        rw [if_pos ⟨h1, by omega⟩]
      refine li_step hp (by rw [em]; exact Nat.le_succ 1) (by rw [em]; exact ⟨Nat.le_succ_of_le hN.1, Nat.le_succ_of_le hN.2.1, Nat.le_succ_of_le hN.2.2⟩) ?_
      rw [em]
      rfl
    · walk_at "go"
      refine bt_dec (fun h3 => ?_) fun h3 => ?_
      · walk_at "go"
        refine tr_dec (fun h4 => ?_) fun h4 => ?_
        · walk_at "go"
          have em : mst s w = { s with pt := 2 } := by
            unfold mst
            rw [if_neg (fun z => h2 (by omega)), if_pos ⟨h3, by omega⟩]
          refine li_step hp (by rw [em]; exact Nat.le_refl 2) (by rw [em]; exact ⟨Nat.le_succ_of_le hN.1, Nat.le_succ_of_le hN.2.1, Nat.le_succ_of_le hN.2.2⟩) ?_
          rw [em]
          rfl
        · walk_at "go"
          refine two_of rfl rfl (ix_own _ _ hpt) ?_
          walk_at "go"
          refine ⟨vw_cell hcell, ?_⟩
          walk_at "go"
          refine s_figures n 10 (by decide) w (hwl w hw) _ fun d hd => ?_
          obtain rfl := fig_eq hd
          walk_at "go"
          have em : mst s w = s.app [w] := by
            unfold mst
            rw [if_neg (fun z => h2 (by omega)), if_neg (fun z => h4 (by omega))]
          refine li_step hp (by rw [em, app_pt]; exact hpt) (by rw [em]; exact app_len s w hN) ?_
          rw [em, app_pt, hset w]
      · walk_at "go"
        refine two_of rfl rfl (ix_own _ _ hpt) ?_
        walk_at "go"
        refine ⟨vw_cell hcell, ?_⟩
        walk_at "go"
        refine s_figures n 10 (by decide) w (hwl w hw) _ fun d hd => ?_
        obtain rfl := fig_eq hd
        walk_at "go"
        have em : mst s w = s.app [w] := by
          unfold mst
          rw [if_neg (fun z => h2 (by omega)), if_neg (fun z => h3 z.1)]
        refine li_step hp (by rw [em, app_pt]; exact hpt) (by rw [em]; exact app_len s w hN) ?_
        rw [em, app_pt, hset w]
  · walk_at "go"
    refine bt_dec (fun h3 => ?_) fun h3 => ?_
    · walk_at "go"
      refine tr_dec (fun h4 => ?_) fun h4 => ?_
      · walk_at "go"
        have em : mst s w = { s with pt := 2 } := by
          unfold mst
          rw [if_neg (fun z => h1 z.1), if_pos ⟨h3, by omega⟩]
        refine li_step hp (by rw [em]; exact Nat.le_refl 2) (by rw [em]; exact ⟨Nat.le_succ_of_le hN.1, Nat.le_succ_of_le hN.2.1, Nat.le_succ_of_le hN.2.2⟩) ?_
        rw [em]
        rfl
      · walk_at "go"
        refine two_of rfl rfl (ix_own _ _ hpt) ?_
        walk_at "go"
        refine ⟨vw_cell hcell, ?_⟩
        walk_at "go"
        refine s_figures n 10 (by decide) w (hwl w hw) _ fun d hd => ?_
        obtain rfl := fig_eq hd
        walk_at "go"
        have em : mst s w = s.app [w] := by
          unfold mst
          rw [if_neg (fun z => h1 z.1), if_neg (fun z => h4 (by omega))]
        refine li_step hp (by rw [em, app_pt]; exact hpt) (by rw [em]; exact app_len s w hN) ?_
        rw [em, app_pt, hset w]
    · walk_at "go"
      refine two_of rfl rfl (ix_own _ _ hpt) ?_
      walk_at "go"
      refine ⟨vw_cell hcell, ?_⟩
      walk_at "go"
      refine s_figures n 10 (by decide) w (hwl w hw) _ fun d hd => ?_
      obtain rfl := fig_eq hd
      walk_at "go"
      have em : mst s w = s.app [w] := by
        unfold mst
        rw [if_neg (fun z => h1 z.1), if_neg (fun z => h3 z.1)]
      refine li_step hp (by rw [em, app_pt]; exact hpt) (by rw [em]; exact app_len s w hN) ?_
      rw [em, app_pt, hset w]
end K86
end
section
set_option maxHeartbeats 1000000
namespace K86
open PySem L2 Lit
local macro_rules | `(tactic| walk_at "vw") => `(tactic| first | rfl | exact view_own (by assumption) | exact view_ownI (by assumption))
local macro_rules | `(tactic| walk_at "op") => `(tactic| first
  | rfl
  | exact mul_r (by first | rfl | exact small_of (by omega))
  | exact mod_r (by omega)
  | exact fdiv_r (by omega)
  | exact add_s (by assumption)
  | exact len_s (by omega)
  | exact str_i (by omega)
  | exact append_g (by omega))
local macro_rules | `(tactic| walk_at "one") => `(tactic| first
  | (with_reducible refine wp_cons ?_) | (with_reducible refine wp_ite ?_) | (with_reducible refine wp_asg ?_) | (with_reducible refine wp_ret ?_) | (with_reducible refine wp_ex ?_) | (with_reducible refine wp_nil ?_)
  | (with_reducible refine wp_bin ?_) | (with_reducible refine wp_cmp ?_) | (with_reducible refine wp_k ?_) | (with_reducible refine wp_ix ?_) | (with_reducible refine wp_bi ?_) | (with_reducible refine wp_not ?_)
  | ((with_reducible refine' wp_v ?h1 ?_); case h1 => rfl) | ((with_reducible refine' wp_vm ?h1 ?_); case h1 => rfl) | ((with_reducible refine' wp_g ?h1 ?_); case h1 => rfl)
  | (with_reducible refine wp_call ?_) | (with_reducible refine sem_call ?_) | (with_reducible refine sem_mk ?_) | (with_reducible refine wp_evc ?_) | (with_reducible refine wp_evc0 ?_) | (with_reducible refine wp_evs ?_) | (with_reducible refine wp_evs0 ?_)
  | (with_reducible refine wp_and ?_) | (with_reducible refine wp_or ?_) | (with_reducible refine wp_andc ?_) | (with_reducible refine wp_orc ?_) | (with_reducible refine wp_and1 ?_) | (with_reducible refine wp_or1 ?_)
  | (with_reducible refine mid_nx ?_) | (with_reducible refine mid_rt ?_) | (with_reducible refine nxt_nx ?_) | (with_reducible refine nxt_rt ?_) | (with_reducible refine fin_rt ?_) | (with_reducible refine fin_nx ?_)
  | (with_reducible refine cap_sh ?_) | (with_reducible refine cap_fr ?_) | ((with_reducible refine' cap_rf ?h1 ?_); case h1 => rfl)
  | ((with_reducible refine asg_sh ?h1 ?_); (case h1 => exact Nat.le_of_ble_eq_true rfl); (try dsimp only [List.set_cons_zero, List.set_cons_succ, Int.reduceToNat])) | ((with_reducible refine asg_fr ?h1 ?_); (case h1 => exact Nat.le_of_ble_eq_true rfl); (try dsimp only [List.set_cons_zero, List.set_cons_succ, Int.reduceToNat]))
  | ((with_reducible refine' two_of ?h1 ?h2 ?h3 ?_); (case h1 => walk_at "vw"); (case h2 => walk_at "vw"); (case h3 => walk_at "op"))
  | ((with_reducible refine' cm_of ?h1 ?h2 ?h3 ?_); (case h1 => walk_at "vw"); (case h2 => walk_at "vw"); (case h3 => walk_at "op"))
  | ((with_reducible refine' bi_of ?h1 ?h2 ?_); (case h1 => walk_at "vw"); (case h2 => walk_at "op"))
  | ((with_reducible refine' not_of ?h1 ?h2 ?_); (case h1 => walk_at "vw"); (case h2 => rfl))
  | (with_reducible refine wp_tup ?_) | (with_reducible refine wp_lst ?_) | (with_reducible refine wp_chn ?_) | (with_reducible refine wp_setix ?_) | (with_reducible refine wp_no ?_) | (with_reducible refine wp_for ?_) | (with_reducible refine wp_lc ?_) | (with_reducible refine wp_isi ?_) | (with_reducible refine wp_ret0 ?_) | (with_reducible refine wp_conds0 ?_) | (with_reducible refine wp_conds ?_)
  | (with_reducible refine turn_nx ?_) | (with_reducible refine turn_rt ?_) | (with_reducible refine turn_bk ?_) | (with_reducible refine turn_ct ?_) | (with_reducible refine wp_me ?_) | (with_reducible refine wp_mu ?_) | (with_reducible refine wp_fld ?_) | (with_reducible refine wp_sl0 ?_) | (with_reducible refine wp_part0 ?_) | (with_reducible refine wp_part rfl ?_) | (with_reducible refine wp_raise ?_) | (with_reducible refine wp_ife ?_) | (with_reducible refine wp_neg ?_) | (with_reducible refine wp_lrng ?_) | (with_reducible refine wp_inv ?_) | (with_reducible refine wp_con ?_) | (with_reducible refine wp_cell ?_)
  | ((with_reducible refine' setix_ce ?h1 ?h2 ?h3 ?_); (case h1 => first | rfl | assumption); (case h2 => walk_at "vw"); (case h3 => rfl); (try dsimp only [List.set_cons_zero, List.set_cons_succ, Int.reduceToNat]))
  | ((with_reducible refine' setix_sl ?h1 ?h2 ?h3 ?_); (case h1 => rfl); (case h2 => walk_at "vw"); (case h3 => first | rfl | assumption); (try dsimp only [List.set_cons_zero, List.set_cons_succ, Int.reduceToNat]))
  | ((with_reducible refine' mu_ce ?h1 ?h2 ?_); (case h1 => first | rfl | assumption); (case h2 => walk_at "op"); (try dsimp only [List.set_cons_zero, List.set_cons_succ, Int.reduceToNat]))
  | ((with_reducible refine' mu_sl ?h1 ?h2 ?_); (case h1 => rfl); (case h2 => walk_at "op"); (try dsimp only [List.set_cons_zero, List.set_cons_succ, Int.reduceToNat]))
  | ((with_reducible refine' me_of ?h1 ?h2 ?h3 ?_); (case h1 => walk_at "vw"); (case h2 => rfl); (case h3 => walk_at "op"))
  | ((with_reducible refine' isi_of ?h1 ?h2 ?_); (case h1 => walk_at "vw"); (case h2 => rfl))
  | ((with_reducible refine' fld_of ?h1 ?h2 ?h3 ?_); (case h1 => walk_at "vw"); (case h2 => first | rfl | decide +kernel); (case h3 => rfl))
  | ((with_reducible refine' sl_of ?h1 ?h2 ?_); (case h1 => walk_at "vw"); (case h2 => walk_at "op"))
  | ((with_reducible refine' int_of ?h1 ?_); (case h1 => walk_at "vw"))
  | ((with_reducible refine' truu_of ?h1 ?h2 ?_); (case h1 => walk_at "vw"); (case h2 => rfl))
  | ((with_reducible refine' asgT_of ?h1 ?h2 ?_); (case h1 => walk_at "vw"); (case h2 => rfl); (try dsimp only [List.set_cons_zero, List.set_cons_succ, Int.reduceToNat]))
  | ((with_reducible refine And.intro ?h1 ?_); (case h1 => first | rfl | exact Nat.le_of_ble_eq_true rfl))
  | (with_reducible refine tr_T ?_) | (with_reducible refine tr_F ?_) | (with_reducible refine bt_T ?_) | (with_reducible refine bt_F ?_)
  | ((with_reducible refine tr_yes ?h1 ?_); case h1 => first | rfl | assumption) | ((with_reducible refine tr_no ?h1 ?_); case h1 => first | rfl | assumption)
  | ((with_reducible refine bt_yes ?h1 ?_); case h1 => first | rfl | assumption) | ((with_reducible refine bt_no ?h1 ?_); case h1 => first | rfl | assumption))
local macro_rules | `(tactic| walk_at "go") => `(tactic| repeat (walk_at "one"))
local macro_rules | `(tactic| walk_at "start") => `(tactic| dsimp only [List.map_cons, List.map_nil, List.length_cons, List.length_nil, Nat.reduceAdd, Nat.reduceSub, List.replicate, List.cons_append, List.nil_append])
local macro_rules | `(tactic| walk_at "gos") => `(tactic| repeat ((fail_if_success (with_reducible refine is_ite ?_)); walk_at "one"))
local macro_rules | `(tactic| walk_at "norm") => `(tactic| simp only [List.set_cons_zero, List.set_cons_succ, List.map_cons, List.map_nil, List.cons_append, List.nil_append, Stt.put])
local macro_rules | `(tactic| walk_at "op") => `(tactic| first | exact len_ints | exact ix_ints (by omega))
local macro_rules | `(tactic| walk_at "op") => `(tactic| first | exact sorted_g | exact ne_ints | exact eq_ints | exact net_ints | exact eqt_ints)
local macro_rules | `(tactic| walk_at "vw") => `(tactic| (show cellV _ _ = some _; assumption))
local macro_rules | `(tactic| walk_at "op") => `(tactic| first | exact in_ints | exact nin_ints | exact len_strs)
local macro_rules | `(tactic| walk_at "one") => `(tactic| ((with_reducible refine' wp_mk ?h1 ?_); case h1 => rfl))
open NumText TL
theorem flat_lows : ∀ {xs : List D}, xs.all isFlat = true → lows 0 xs = true
  | [], _ => rfl
  | x :: xs, h => by
    rw [List.all_cons, Bool.and_eq_true] at h
    have h1 : low 0 x = true := by cases x <;> first | rfl | (exact absurd h.1 (by simp [isFlat]))
    simp only [lows, h1, flat_lows h.2, Bool.and_self]
theorem cel_z {cs : List Cell} (hz : Zc0 cs) (s : LS) : Zc0 (cs ++ s.cel) := by
  unfold Zc0 at *
  rw [List.all_append, hz, Bool.true_and]
  simp only [LS.cel, List.all_cons, List.all_nil, lowC, flat_lows (flat_figs 10 _), Bool.and_self]
theorem sN_list : ∀ {xs ys : List Nat}, xs.map sN = ys.map sN → xs = ys
  | [], [], _ => rfl
  | x :: xs, y :: ys, h => by
    obtain ⟨h1, h2⟩ := List.cons.inj h
    rw [sN_inj h1, sN_list h2]
  | [], _ :: _, h => nomatch h
  | _ :: _, [], h => nomatch h
/-- what the parts of a lot's words are -/
def Parts (na nb nc : List Nat) (g m : List Int) (p : Int) : Prop := nI na = isort g ∧ (isort m = isort g ∧ nb = [] ∨ isort m ≠ isort g ∧ nI nb = isort m) ∧ (p = 0 ∧ nc = [] ∨ p ≠ 0 ∧ nI nc = [p])
theorem nats_of {xs : List Int} (h : ∀ x ∈ xs, 0 ≤ x) : ∃ ns : List Nat, nI ns = xs := by
  refine ⟨xs.map Int.toNat, ?_⟩
  show ((xs.map Int.toNat).map fun (n : Nat) => (n : Int)) = xs
  rw [List.map_map]
  conv => rhs; rw [← List.map_id xs]
  refine List.map_congr_left fun x hx => ?_
  have := h x hx
  simp only [Function.comp, id]
  omega
theorem parts_of {ws : List Str} {s : LS} (hf : ws.foldl mst LS.z = s) {g m : List Int} {p : Int} (hR : RowP g m p) (hw : ws = lotW (isort g) (isort m) p) : ∃ na nb nc : List Nat, s.a = na.map sN ∧ s.b = nb.map sN ∧ s.c = nc.map sN ∧ Parts na nb nc g m p ∧
    (∀ x ∈ na, (sN x).length ≤ 10) ∧ (∀ x ∈ nb, (sN x).length ≤ 10) ∧ (∀ x ∈ nc, (sN x).length ≤ 10) := by
  obtain ⟨pt, e⟩ := fold_lot hR
  rw [← hw, hf] at e
  subst e
  obtain ⟨na, ea⟩ := nats_of (xs := isort g) fun x hx => (isort_r hR.gr x hx).1
  obtain ⟨nm, em⟩ := nats_of (xs := isort m) fun x hx => (isort_r hR.mr x hx).1
  have sl : ∀ (ns : List Nat) (xs : List Int), nI ns = xs → (∀ x ∈ xs, 0 ≤ x ∧ x < 12) → ∀ x ∈ ns, (sN x).length ≤ 10 := fun ns xs e h x hx => by
    have h1 := h (x : Int) (by rw [← e]; exact List.mem_map.mpr ⟨x, hx, rfl⟩)
    exact sI_len (by decide) h1.1 (by omega)
  have l1 := sl na _ ea (isort_r hR.gr)
  have l2 := sl nm _ em (isort_r hR.mr)
  obtain ⟨k, ek⟩ := Int.eq_ofNat_of_zero_le hR.p0
  have lp : (sN k).length ≤ 10 := sI_len (by decide) (by omega) (by have := hR.p1; omega)
  have hc : ∃ nc : List Nat, (if p = 0 then [] else [sI p]) = nc.map sN ∧ (p = 0 ∧ nc = [] ∨ p ≠ 0 ∧ nI nc = [p]) ∧ ∀ x ∈ nc, (sN x).length ≤ 10 := by
    by_cases h0 : p = 0
    · exact ⟨[], by rw [if_pos h0]; rfl, .inl ⟨h0, rfl⟩, by simp⟩
    · exact ⟨[k], by rw [if_neg h0, ek]; rfl, .inr ⟨h0, by rw [ek]; rfl⟩, by simpa using lp⟩
  obtain ⟨nc, c1, c2, c3⟩ := hc
  by_cases h : isort m = isort g
  · refine ⟨na, [], nc, ?_, ?_, c1, ⟨ea, .inl ⟨h, rfl⟩, c2⟩, l1, by simp, c3⟩
    · rw [nI_sI, ea]
    · show (if isort m = isort g then [] else (isort m).map sI) = _
      rw [if_pos h]
      rfl
  · refine ⟨na, nm, nc, ?_, ?_, c1, ⟨ea, .inr ⟨h, em⟩, c2⟩, l1, l2, c3⟩
    · rw [nI_sI, ea]
    · show (if isort m = isort g then [] else (isort m).map sI) = _
      rw [if_neg h, nI_sI, em]
def cA (gI : List Int) : D → Bool
  | .int v => !decide (v ∈ gI)
  | _ => true
def cB (mm : List Int) : D → Bool
  | .int k => decide (mm.getD k.toNat 0 ∈ mm.take k.toNat)
  | _ => true
theorem fA {gI mm : List Int} : ((mm.map D.int).filter (cA gI)).map id = [] ↔ ∀ v ∈ mm, v ∈ gI := by
  rw [List.map_id, List.filter_eq_nil_iff]
  constructor
  · intro h v hv
    have := h (.int v) (List.mem_map.mpr ⟨v, hv, rfl⟩)
    simpa [cA] using this
  · intro h d hd
    obtain ⟨v, hv, rfl⟩ := List.mem_map.mp hd
    simpa [cA] using h v hv
theorem fB {mm : List Int} : ((rngD 0 (mm.length : Int)).filter (cB mm)).map id = [] ↔ mm.Nodup := by
  rw [List.map_id, List.filter_eq_nil_iff, nodup_by, rng_eq]
  constructor
  · intro h k hk
    have := h (.int (k : Int)) (List.mem_map.mpr ⟨k, by simpa using hk, rfl⟩)
    simpa [cB, hk] using this
  · intro h d hd
    obtain ⟨k, hk, rfl⟩ := List.mem_map.mp hd
    have hk : k < mm.length := by simpa using hk
    simpa [cB, hk] using h k hk
theorem nil_len {xs : List D} : (0 : Int) < (xs.length : Int) ↔ xs ≠ [] := by
  cases xs <;> simp <;> omega
theorem rng_len (m : Nat) : (rngD 0 (m : Int)).length = m := by
  rw [rng_eq]
  simp
end K86
end
section
set_option maxHeartbeats 1000000
namespace K86
open PySem L2 Lit
local macro_rules | `(tactic| walk_at "vw") => `(tactic| first | rfl | exact view_own (by assumption) | exact view_ownI (by assumption))
local macro_rules | `(tactic| walk_at "op") => `(tactic| first
  | rfl
  | exact mul_r (by first | rfl | exact small_of (by omega))
  | exact mod_r (by omega)
  | exact fdiv_r (by omega)
  | exact add_s (by assumption)
  | exact len_s (by omega)
  | exact str_i (by omega)
  | exact append_g (by omega))
local macro_rules | `(tactic| walk_at "one") => `(tactic| first
  | (with_reducible refine wp_cons ?_) | (with_reducible refine wp_ite ?_) | (with_reducible refine wp_asg ?_) | (with_reducible refine wp_ret ?_) | (with_reducible refine wp_ex ?_) | (with_reducible refine wp_nil ?_)
  | (with_reducible refine wp_bin ?_) | (with_reducible refine wp_cmp ?_) | (with_reducible refine wp_k ?_) | (with_reducible refine wp_ix ?_) | (with_reducible refine wp_bi ?_) | (with_reducible refine wp_not ?_)
  | ((with_reducible refine' wp_v ?h1 ?_); case h1 => rfl) | ((with_reducible refine' wp_vm ?h1 ?_); case h1 => rfl) | ((with_reducible refine' wp_g ?h1 ?_); case h1 => rfl)
  | (with_reducible refine wp_call ?_) | (with_reducible refine sem_call ?_) | (with_reducible refine sem_mk ?_) | (with_reducible refine wp_evc ?_) | (with_reducible refine wp_evc0 ?_) | (with_reducible refine wp_evs ?_) | (with_reducible refine wp_evs0 ?_)
  | (with_reducible refine wp_and ?_) | (with_reducible refine wp_or ?_) | (with_reducible refine wp_andc ?_) | (with_reducible refine wp_orc ?_) | (with_reducible refine wp_and1 ?_) | (with_reducible refine wp_or1 ?_)
  | (with_reducible refine mid_nx ?_) | (with_reducible refine mid_rt ?_) | (with_reducible refine nxt_nx ?_) | (with_reducible refine nxt_rt ?_) | (with_reducible refine fin_rt ?_) | (with_reducible refine fin_nx ?_)
  | (with_reducible refine cap_sh ?_) | (with_reducible refine cap_fr ?_) | ((with_reducible refine' cap_rf ?h1 ?_); case h1 => rfl)
  | ((with_reducible refine asg_sh ?h1 ?_); (case h1 => exact Nat.le_of_ble_eq_true rfl); (try dsimp only [List.set_cons_zero, List.set_cons_succ, Int.reduceToNat])) | ((with_reducible refine asg_fr ?h1 ?_); (case h1 => exact Nat.le_of_ble_eq_true rfl); (try dsimp only [List.set_cons_zero, List.set_cons_succ, Int.reduceToNat]))
  | ((with_reducible refine' two_of ?h1 ?h2 ?h3 ?_); (case h1 => walk_at "vw"); (case h2 => walk_at "vw"); (case h3 => walk_at "op"))
  | ((with_reducible refine' cm_of ?h1 ?h2 ?h3 ?_); (case h1 => walk_at "vw"); (case h2 => walk_at "vw"); (case h3 => walk_at "op"))
  | ((with_reducible refine' bi_of ?h1 ?h2 ?_); (case h1 => walk_at "vw"); (case h2 => walk_at "op"))
  | ((with_reducible refine' not_of ?h1 ?h2 ?_); (case h1 => walk_at "vw"); (case h2 => rfl))
  | (with_reducible refine wp_tup ?_) | (with_reducible refine wp_lst ?_) | (with_reducible refine wp_chn ?_) | (with_reducible refine wp_setix ?_) | (with_reducible refine wp_no ?_) | (with_reducible refine wp_for ?_) | (with_reducible refine wp_lc ?_) | (with_reducible refine wp_isi ?_) | (with_reducible refine wp_ret0 ?_) | (with_reducible refine wp_conds0 ?_) | (with_reducible refine wp_conds ?_)
  | (with_reducible refine turn_nx ?_) | (with_reducible refine turn_rt ?_) | (with_reducible refine turn_bk ?_) | (with_reducible refine turn_ct ?_) | (with_reducible refine wp_me ?_) | (with_reducible refine wp_mu ?_) | (with_reducible refine wp_fld ?_) | (with_reducible refine wp_sl0 ?_) | (with_reducible refine wp_part0 ?_) | (with_reducible refine wp_part rfl ?_) | (with_reducible refine wp_raise ?_) | (with_reducible refine wp_ife ?_) | (with_reducible refine wp_neg ?_) | (with_reducible refine wp_lrng ?_) | (with_reducible refine wp_inv ?_) | (with_reducible refine wp_con ?_) | (with_reducible refine wp_cell ?_)
  | ((with_reducible refine' setix_ce ?h1 ?h2 ?h3 ?_); (case h1 => first | rfl | assumption); (case h2 => walk_at "vw"); (case h3 => rfl); (try dsimp only [List.set_cons_zero, List.set_cons_succ, Int.reduceToNat]))
  | ((with_reducible refine' setix_sl ?h1 ?h2 ?h3 ?_); (case h1 => rfl); (case h2 => walk_at "vw"); (case h3 => first | rfl | assumption); (try dsimp only [List.set_cons_zero, List.set_cons_succ, Int.reduceToNat]))
  | ((with_reducible refine' mu_ce ?h1 ?h2 ?_); (case h1 => first | rfl | assumption); (case h2 => walk_at "op"); (try dsimp only [List.set_cons_zero, List.set_cons_succ, Int.reduceToNat]))
  | ((with_reducible refine' mu_sl ?h1 ?h2 ?_); (case h1 => rfl); (case h2 => walk_at "op"); (try dsimp only [List.set_cons_zero, List.set_cons_succ, Int.reduceToNat]))
  | ((with_reducible refine' me_of ?h1 ?h2 ?h3 ?_); (case h1 => walk_at "vw"); (case h2 => rfl); (case h3 => walk_at "op"))
  | ((with_reducible refine' isi_of ?h1 ?h2 ?_); (case h1 => walk_at "vw"); (case h2 => rfl))
  | ((with_reducible refine' fld_of ?h1 ?h2 ?h3 ?_); (case h1 => walk_at "vw"); (case h2 => first | rfl | decide +kernel); (case h3 => rfl))
  | ((with_reducible refine' sl_of ?h1 ?h2 ?_); (case h1 => walk_at "vw"); (case h2 => walk_at "op"))
  | ((with_reducible refine' int_of ?h1 ?_); (case h1 => walk_at "vw"))
  | ((with_reducible refine' truu_of ?h1 ?h2 ?_); (case h1 => walk_at "vw"); (case h2 => rfl))
  | ((with_reducible refine' asgT_of ?h1 ?h2 ?_); (case h1 => walk_at "vw"); (case h2 => rfl); (try dsimp only [List.set_cons_zero, List.set_cons_succ, Int.reduceToNat]))
  | ((with_reducible refine And.intro ?h1 ?_); (case h1 => first | rfl | exact Nat.le_of_ble_eq_true rfl))
  | (with_reducible refine tr_T ?_) | (with_reducible refine tr_F ?_) | (with_reducible refine bt_T ?_) | (with_reducible refine bt_F ?_)
  | ((with_reducible refine tr_yes ?h1 ?_); case h1 => first | rfl | assumption) | ((with_reducible refine tr_no ?h1 ?_); case h1 => first | rfl | assumption)
  | ((with_reducible refine bt_yes ?h1 ?_); case h1 => first | rfl | assumption) | ((with_reducible refine bt_no ?h1 ?_); case h1 => first | rfl | assumption))
local macro_rules | `(tactic| walk_at "go") => `(tactic| repeat (walk_at "one"))
local macro_rules | `(tactic| walk_at "start") => `(tactic| dsimp only [List.map_cons, List.map_nil, List.length_cons, List.length_nil, Nat.reduceAdd, Nat.reduceSub, List.replicate, List.cons_append, List.nil_append])
local macro_rules | `(tactic| walk_at "gos") => `(tactic| repeat ((fail_if_success (with_reducible refine is_ite ?_)); walk_at "one"))
local macro_rules | `(tactic| walk_at "norm") => `(tactic| simp only [List.set_cons_zero, List.set_cons_succ, List.map_cons, List.map_nil, List.cons_append, List.nil_append, Stt.put])
local macro_rules | `(tactic| walk_at "op") => `(tactic| first | exact len_ints | exact ix_ints (by omega))
local macro_rules | `(tactic| walk_at "op") => `(tactic| first | exact sorted_g | exact ne_ints | exact eq_ints | exact net_ints | exact eqt_ints)
local macro_rules | `(tactic| walk_at "vw") => `(tactic| (show cellV _ _ = some _; assumption))
local macro_rules | `(tactic| walk_at "op") => `(tactic| first | exact in_ints | exact nin_ints | exact len_strs)
local macro_rules | `(tactic| walk_at "one") => `(tactic| ((with_reducible refine' wp_mk ?h1 ?_); case h1 => rfl))
open NumText TL
theorem ix0D {x : D} {r : List D} : gIx (.lst (x :: r)) (.int 0) = some (.sh x) := ix_lst (ds := x :: r) (i := 0) (by simp)
set_option maxHeartbeats 8000000 in
theorem s_lot_read (n : Nat) (ws : List Str) (hl : ws.length ≤ 40000) (hwl : ∀ w ∈ ws, w.length ≤ 100000) (cs : List Cell) (hz : Zc0 cs) {Q : D → List Cell → Prop} {E : Exc → List Cell → Prop}
    (q : ∀ g m p dg dm ext, Zc0 (cs ++ ext) → RowP g m p → cellV (cs ++ ext) dg = some (.lst (g.map .int)) → cellV (cs ++ ext) dm = some (.lst (m.map .int)) →
      (∀ g' m' p', RowP g' m' p' → ws = lotW (isort g') (isort m') p' → g = isort g' ∧ m = isort m' ∧ p = p') → Q (.tup [.str "add", .tup [dg, dm, .int p]]) (cs ++ ext))
    (e : ∀ ext, Zc0 (cs ++ ext) → (∀ g m p, RowP g m p → ws ≠ lotW (isort g) (isort m) p) → Q .non (cs ++ ext)) : Rs (semT tb (n + 2) 43 [.lst (ws.map .str)] cs) Q E := by
  refine rs_go (P := pgT tb (semT tb (n + 1))) (np := 1) (N := 10) (ir := ir43) ?_
  walk_at "start"
  unfold ir43
  refine wp_mid (fun st => st = ⟨[.sh (.lst (ws.map .str)), .mu [.own cs.length, .own (cs.length + 1), .own (cs.length + 2)], .no, .no, .no, .no, .no, .no, .no, .no], cs ++ LS.z.cel⟩) ?_ fun st hst => ?_
  · walk_at "go"
    simp [LS.cel, LS.z]
  subst hst
  refine wp_mid (fun st => LI ws cs [] st) ?_ fun st hst => ?_
  · walk_at "go"
    exact ⟨LS.z, .no, rfl, Nat.zero_le _, ⟨Nat.zero_le _, Nat.zero_le _, Nat.zero_le _⟩, rfl, rfl⟩
  refine wp_mid (fun st => LI ws cs ws st) ?_ fun st hst => ?_
  · have hI := hst
    obtain ⟨s, sl, _, _, _, _, rfl⟩ := hst
    walk_at "go"
    refine ⟨_, rfl, ?_⟩
    exact for_map ws (fun pre st => LI ws cs pre st) (fun pre w post st hw h => lr_loop n ws hl hwl cs pre w post st hw h) (fun st h => mid_nx h) _ hI
  obtain ⟨s, sl, hfold, hpt, ⟨n1, n2, n3⟩, hsl, rfl⟩ := hst
  have zC := cel_z hz s
  have k0 : (cs ++ s.cel)[cs.length]? = some (.lst (s.a.map (figD 10))) := c0
  have k1 : (cs ++ s.cel)[cs.length + 1]? = some (.lst (s.b.map (figD 10))) := c1
  have k2 : (cs ++ s.cel)[cs.length + 2]? = some (.lst (s.c.map (figD 10))) := c2
  have q' := fun g m p dg dm => q g m p dg dm s.cel zC
  have e' := e s.cel zC
  have good := fun g m p hR hw => parts_of (ws := ws) hfold (g := g) (m := m) (p := p) hR hw
  clear q e
  generalize cs ++ s.cel = C at *
  have hflat : ((s.a.map (figD 10) ++ s.b.map (figD 10)) ++ s.c.map (figD 10)).all isFlat = true := by
    rw [List.all_append, List.all_append, flat_figs, flat_figs, flat_figs]
    rfl
  have hzero : decide (s.pt = 0) = decide (s.pt = 0) := rfl
  generalize s.pt = pt at *
  refine wp_mid (fun st => ∃ na nb nc : List Nat, s.a = na.map sN ∧ s.b = nb.map sN ∧ s.c = nc.map sN ∧ 2 ≤ na.length ∧ (∀ x ∈ na, x ≤ 11) ∧ (∀ g m p, RowP g m p → ws = lotW (isort g) (isort m) p → Parts na nb nc g m p) ∧
    C[cs.length]? = some (.lst ((nI na).map .int)) ∧ C[cs.length + 1]? = some (.lst ((nI nb).map .int)) ∧ C[cs.length + 2]? = some (.lst ((nI nc).map .int)) ∧
    st = ⟨[.sh (.lst (ws.map .str)), .mu [.own cs.length, .own (cs.length + 1), .own (cs.length + 2)], .sh (.int (pt : Int)), sl, .no, .no, .no, .no, .no, .no], C⟩) ?_ fun st hst => ?_
  · walk_at "go"
    refine two_of (view_own k0) (view_own k1) (add_l (by simp only [List.length_map]; omega)) ?_
    walk_at "go"
    refine two_of rfl (view_own k2) (add_l (by simp only [List.length_append, List.length_map]; omega)) ?_
    walk_at "go"
    refine cm_of rfl rfl (in_figs hflat) ?_
    refine bt_bl (fun hN => ?_) fun hN => ?_
    · walk_at "go"
      refine e' fun g m p hR hw => ?_
      obtain ⟨na, nb, nc, a1, a2, a3, _, l1, l2, l3⟩ := good g m p hR hw
      rw [hasNon_app, hasNon_app, a1, a2, a3, figs_of na l1, figs_of nb l2, figs_of nc l3, has_ints, has_ints, has_ints] at hN
      cases hN
    · rw [hasNon_app, hasNon_app] at hN
      simp only [Bool.or_eq_false_iff] at hN
      obtain ⟨na, a1, _, a3⟩ := all_fig hN.1.1
      obtain ⟨nb, b1, _, b3⟩ := all_fig hN.1.2
      obtain ⟨nc, d1, _, d3⟩ := all_fig hN.2
      rw [a3, nI_map] at k0
      rw [b3, nI_map] at k1
      rw [d3, nI_map] at k2
      have good' : ∀ g m p, RowP g m p → ws = lotW (isort g) (isort m) p → Parts na nb nc g m p := fun g m p hR hw => by
        obtain ⟨na', nb', nc', x1, x2, x3, x4, _⟩ := good g m p hR hw
        rw [sN_list (a1.symm.trans x1), sN_list (b1.symm.trans x2), sN_list (d1.symm.trans x3)]
        exact x4
      walk_at "go"
      refine bt_dec (fun h2 => ?_) fun h2 => ?_
      · walk_at "go"
        refine e' fun g m p hR hw => ?_
        have z1 := congrArg List.length (good' g m p hR hw).1
        have z2 := (isort_perm g).length_eq
        have z3 := hR.gl
        simp only [List.length_map] at z1 h2
        omega
      · simp only [List.length_map] at h2
        cases na with
        | nil => exact absurd h2 (by simp)
        | cons x r =>
          walk_at "go"
          refine bi_of (view_own k0) (max_g (x := (x : Int)) (xs := nI r)) ?_
          walk_at "go"
          refine tr_dec (fun h3 => ?_) fun h3 => ?_
          · walk_at "go"
            refine e' fun g m p hR hw => ?_
            have z1 : nI (x :: r) = isort g := (good' g m p hR hw).1
            have z2 := isort_r hR.gr
            rw [← z1] at z2
            have z3 : imax (x : Int) (nI r) ≤ 11 := (imax_le _ _ _).mpr ⟨by have := (z2 (x : Int) (by simp)).2; omega, fun y hy => by have := (z2 y (List.mem_cons_of_mem _ hy)).2; omega⟩
            omega
          · walk_at "go"
            have z3 := (imax_le (nI r) (x : Int) 11).mp (by omega)
            refine ⟨x :: r, nb, nc, a1, b1, d1, by simp at h2 ⊢; omega, fun y hy => ?_, good', k0, k1, k2, rfl⟩
            rcases List.mem_cons.mp hy with rfl | hy
            · have := z3.1; omega
            · have := z3.2 (y : Int) (List.mem_map.mpr ⟨y, hy, rfl⟩); omega
  obtain ⟨na, nb, nc, a1, b1, d1, h2, h11, good', k0, k1, k2, rfl⟩ := hst
  have la : na.length ≤ 40000 := by have := congrArg List.length a1; simp at this; omega
  have lb : nb.length ≤ 40000 := by have := congrArg List.length b1; simp at this; omega
  have lc : nc.length ≤ 40000 := by have := congrArg List.length d1; simp at this; omega
  clear good
  refine wp_mid (fun st => st = ⟨[.sh (.lst (ws.map .str)), .mu [.own cs.length, .own (cs.length + 1), .own (cs.length + 2)], .sh (.int (pt : Int)), sl, .sh (.own cs.length), .no, .no, .no, .no, .no], C⟩) ?_ fun st hst => ?_
  · walk_at "go"
    rfl
  subst hst
  refine wp_mid (fun st => st = ⟨[.sh (.lst (ws.map .str)), .mu [.own cs.length, .own (cs.length + 1), .own (cs.length + 2)], .sh (.int (pt : Int)), sl, .sh (.own cs.length), .mu ((nI na).map .int), .no, .no, .no, .no], C⟩) ?_ fun st hst => ?_
  · walk_at "go"
    rfl
  subst hst
  refine wp_mid (fun st => ∃ sl5, (nb = [] ∧ sl5 = .mu ((nI na).map .int) ∨ nb ≠ [] ∧ sl5 = .sh (.own (cs.length + 1))) ∧ st = ⟨[.sh (.lst (ws.map .str)), .mu [.own cs.length, .own (cs.length + 1), .own (cs.length + 2)], .sh (.int (pt : Int)), sl, .sh (.own cs.length), sl5, .no, .no, .no, .no], C⟩) ?_ fun st hst => ?_
  · walk_at "go"
    refine tr_dec (fun h => ?_) fun h => ?_
    · walk_at "go"
      refine ⟨_, .inr ⟨fun z => ?_, rfl⟩, rfl⟩
      subst z
      simp at h
    · walk_at "go"
      refine ⟨_, .inl ⟨?_, rfl⟩, rfl⟩
      cases nb with
      | nil => rfl
      | cons x r => simp at h
  obtain ⟨sl5, hsl5, rfl⟩ := hst
  refine wp_mid (fun st => ∃ pv : Int, 0 ≤ pv ∧ (nc = [] ∧ pv = 0 ∨ ∃ x r, nc = x :: r ∧ pv = (x : Int)) ∧ st = ⟨[.sh (.lst (ws.map .str)), .mu [.own cs.length, .own (cs.length + 1), .own (cs.length + 2)], .sh (.int (pt : Int)), sl, .sh (.own cs.length), sl5, .sh (.int pv), .no, .no, .no], C⟩) ?_ fun st hst => ?_
  · walk_at "go"
    refine two_of (view_own k2) rfl (add_l (by simp only [List.length_map, List.length_singleton]; omega)) ?_
    walk_at "go"
    cases nc with
    | nil =>
      walk_at "go"
      exact ⟨_, by decide, .inl ⟨rfl, rfl⟩, rfl⟩
    | cons x r =>
      refine two_of rfl rfl (ix0D (x := D.int (x : Int)) (r := (nI r).map D.int ++ [D.int 0])) ?_
      walk_at "go"
      exact ⟨_, by omega, .inr ⟨x, r, rfl, rfl⟩, rfl⟩
  obtain ⟨pv, hpv, hpv2, rfl⟩ := hst
  -- the wrong ones
  generalize hmm : (if nb = [] then nI na else nI nb) = mm
  have lm : mm.length ≤ 40000 := by rw [← hmm]; split <;> simp only [List.length_map] <;> omega
  refine wp_mid (fun st => ∃ (dm : D) (W : List D), cellV C dm = some (.lst (mm.map .int)) ∧ (W = [] ↔ (∀ v ∈ mm, v ∈ nI na) ∧ mm.Nodup) ∧ W.length ≤ 80000 ∧
    st = ⟨[.sh (.lst (ws.map .str)), .mu [.own cs.length, .own (cs.length + 1), .own (cs.length + 2)], .sh (.int (pt : Int)), sl, .sh (.own cs.length), .sh dm, .sh (.int pv), .mu W, .no, .no], C⟩) ?_ fun st hst => ?_
  · rcases hsl5 with ⟨z, rfl⟩ | ⟨z, rfl⟩
    · rw [if_pos z] at hmm
      subst hmm
      walk_at "go"
      refine lc_of (cA (nI na)) id rfl rfl rfl (by simp only [List.length_map]; omega) (fun x hx => ?_) (fun x hx _ => ?_) ?_
      · obtain ⟨v, hv, rfl⟩ := List.mem_map.mp hx
        walk_at "norm"
        walk_at "go"
        rfl
      · walk_at "norm"
        walk_at "go"
        rfl
      · walk_at "go"
        refine lc_of (cB (nI na)) id (rng1_it (by simp only [List.length_map]; omega) _) rfl rfl (by rw [rng_len]; simp only [List.length_map]; omega) (fun x hx => ?_) (fun x hx _ => ?_) ?_
        · rw [rng_eq] at hx
          obtain ⟨k, hk, rfl⟩ := List.mem_map.mp hx
          have hk : k < (nI na).length := by simpa using hk
          walk_at "norm"
          walk_at "go"
          rw [cut_ints (by omega)]
          walk_at "go"
          exact ⟨by simp only [cB, Int.toNat_natCast, List.getD_eq_getElem?_getD, List.getElem?_eq_getElem hk, Option.getD_some], rfl⟩
        · walk_at "norm"
          walk_at "go"
          rfl
        · have l1 := List.length_filter_le (cA (nI na)) ((nI na).map D.int)
          have l2 := List.length_filter_le (cB (nI na)) (rngD 0 ((nI na).length : Int))
          rw [rng_len] at l2
          rw [List.length_map] at l1
          have lm' : (nI na).length ≤ 40000 := lm
          refine two_of rfl rfl (add_l (by simp only [List.length_map] at l1 l2 lm' ⊢; omega)) ?_
          walk_at "go"
          refine ⟨_, _, rfl, ?_, ?_, rfl⟩
          · rw [List.append_eq_nil_iff, fA, fB]
          · simp only [List.length_append, List.length_map] at l1 l2 lm' ⊢
            omega
    · rw [if_neg z] at hmm
      subst hmm
      walk_at "go"
      refine lc_cel (cA (nI na)) id k1 (by simp [isFlat]) rfl rfl (by simp only [List.length_map]; omega) (fun x hx => ?_) (fun x hx _ => ?_) ?_
      · obtain ⟨v, hv, rfl⟩ := List.mem_map.mp hx
        walk_at "norm"
        walk_at "go"
        rfl
      · walk_at "norm"
        walk_at "go"
        rfl
      · walk_at "go"
        refine lc_of (cB (nI nb)) id (rng1_it (by simp only [List.length_map]; omega) _) rfl rfl (by rw [rng_len]; simp only [List.length_map]; omega) (fun x hx => ?_) (fun x hx _ => ?_) ?_
        · rw [rng_eq] at hx
          obtain ⟨k, hk, rfl⟩ := List.mem_map.mp hx
          have hk : k < (nI nb).length := by simpa using hk
          walk_at "norm"
          walk_at "go"
          rw [cut_ints (by omega)]
          walk_at "go"
          exact ⟨by simp only [cB, Int.toNat_natCast, List.getD_eq_getElem?_getD, List.getElem?_eq_getElem hk, Option.getD_some], rfl⟩
        · walk_at "norm"
          walk_at "go"
          rfl
        · have l1 := List.length_filter_le (cA (nI na)) ((nI nb).map D.int)
          have l2 := List.length_filter_le (cB (nI nb)) (rngD 0 ((nI nb).length : Int))
          rw [rng_len] at l2
          rw [List.length_map] at l1
          have lm' : (nI nb).length ≤ 40000 := lm
          refine two_of rfl rfl (add_l (by simp only [List.length_map] at l1 l2 lm' ⊢; omega)) ?_
          walk_at "go"
          refine ⟨_, _, by simp only [cellV, k1], ?_, ?_, rfl⟩
          · rw [List.append_eq_nil_iff, fA, fB]
          · simp only [List.length_append, List.length_map] at l1 l2 lm' ⊢
            omega
  obtain ⟨dm, W, hdm, hW, lW, rfl⟩ := hst
  refine wp_mid (fun st => ∃ (W2 : List D), (W2 = [] ↔ W = [] ∧ (nI na).Nodup) ∧
    st = ⟨[.sh (.lst (ws.map .str)), .mu [.own cs.length, .own (cs.length + 1), .own (cs.length + 2)], .sh (.int (pt : Int)), sl, .sh (.own cs.length), .sh dm, .sh (.int pv), .mu W2, .no, .no], C⟩) ?_ fun st hst => ?_
  · walk_at "go"
    refine lc_of (cB (nI na)) id (rng1_it (by simp only [List.length_map]; omega) _) rfl rfl (by rw [rng_len]; simp only [List.length_map]; omega) (fun x hx => ?_) (fun x hx _ => ?_) ?_
    · rw [rng_eq] at hx
      obtain ⟨k, hk, rfl⟩ := List.mem_map.mp hx
      have hk : k < (nI na).length := by simpa using hk
      walk_at "norm"
      walk_at "go"
      rw [cut_ints (by omega)]
      walk_at "go"
      exact ⟨by simp only [cB, Int.toNat_natCast, List.getD_eq_getElem?_getD, List.getElem?_eq_getElem hk, Option.getD_some], rfl⟩
    · walk_at "norm"
      walk_at "go"
      rfl
    · have l2 := List.length_filter_le (cB (nI na)) (rngD 0 ((nI na).length : Int))
      rw [rng_len] at l2
      refine two_of rfl rfl (add_l (by simp only [List.length_map] at l2 ⊢; omega)) ?_
      walk_at "go"
      refine ⟨_, ?_, rfl⟩
      rw [List.append_eq_nil_iff, fB]
  obtain ⟨W2, hW2, rfl⟩ := hst
  have fits : ∀ g m p, RowP g m p → ws = lotW (isort g) (isort m) p → nI na = isort g ∧ mm = isort m ∧ pv = p := fun g m p hR hw => by
    obtain ⟨p1, p2, p3⟩ := good' g m p hR hw
    refine ⟨p1, ?_, ?_⟩
    · rw [← hmm]
      have hm0 : isort m ≠ [] := fun z => hR.m0 (by have := (isort_perm m).symm; rw [z] at this; simpa using this)
      rcases p2 with ⟨x1, x2⟩ | ⟨x1, x2⟩
      · rw [if_pos x2, p1, x1]
      · have : nb ≠ [] := fun z => hm0 (by rw [← x2, z]; rfl)
        rw [if_neg this, x2]
    · rcases p3 with ⟨x1, x2⟩ | ⟨x1, x2⟩
      · rcases hpv2 with ⟨y1, y2⟩ | ⟨x, r, y1, y2⟩
        · rw [y2, x1]
        · rw [y1] at x2; cases x2
      · rcases hpv2 with ⟨y1, y2⟩ | ⟨x, r, y1, y2⟩
        · rw [y1] at x2; cases x2
        · rw [y1] at x2
          rw [y2]
          exact (List.cons.inj x2).1
  walk_at "go"
  refine bt_dec (fun h => ?_) fun h => ?_
  · walk_at "go"
    refine e' fun g m p hR hw => ?_
    obtain ⟨f1, f2, f3⟩ := fits g m p hR hw
    have hR2 := isort_row hR
    refine absurd (hW2.mpr ⟨hW.mpr ⟨?_, ?_⟩, ?_⟩) (nil_len.mp h)
    · rw [f1, f2]; exact hR2.ms
    · rw [f2]; exact hR2.mn
    · rw [f1]; exact hR2.gn
  · walk_at "go"
    have hnil : W2 = [] := by
      cases W2 with
      | nil => rfl
      | cons x r => exact absurd (nil_len.mpr (by simp)) h
    obtain ⟨w1, w2⟩ := hW2.mp hnil
    obtain ⟨w3, w4⟩ := hW.mp w1
    refine tr_dec (fun h3 => ?_) fun h3 => ?_
    · walk_at "go"
      refine e' fun g m p hR hw => ?_
      obtain ⟨f1, f2, f3⟩ := fits g m p hR hw
      have := hR.p1
      simp at h3
      omega
    · walk_at "go"
      refine q' (nI na) mm pv (.own cs.length) dm ⟨w2, fun y hy => ?_, by simpa using h2, w4, w3, ?_, hpv, by simp at h3; omega⟩ (by simp only [cellV, k0]) hdm fits
      · obtain ⟨x, hx, rfl⟩ := List.mem_map.mp hy
        have := h11 x hx
        omega
      · rw [← hmm]
        intro z
        split at z
        · have := congrArg List.length z
          simp at this
          subst this
          simp at h2
        · next h => exact h (by simpa using z)
end K86
end
section
set_option maxHeartbeats 1000000
namespace K86
open PySem L2 Lit
local macro_rules | `(tactic| walk_at "vw") => `(tactic| first | rfl | exact view_own (by assumption) | exact view_ownI (by assumption))
local macro_rules | `(tactic| walk_at "op") => `(tactic| first
  | rfl
  | exact mul_r (by first | rfl | exact small_of (by omega))
  | exact mod_r (by omega)
  | exact fdiv_r (by omega)
  | exact add_s (by assumption)
  | exact len_s (by omega)
  | exact str_i (by omega)
  | exact append_g (by omega))
local macro_rules | `(tactic| walk_at "one") => `(tactic| first
  | (with_reducible refine wp_cons ?_) | (with_reducible refine wp_ite ?_) | (with_reducible refine wp_asg ?_) | (with_reducible refine wp_ret ?_) | (with_reducible refine wp_ex ?_) | (with_reducible refine wp_nil ?_)
  | (with_reducible refine wp_bin ?_) | (with_reducible refine wp_cmp ?_) | (with_reducible refine wp_k ?_) | (with_reducible refine wp_ix ?_) | (with_reducible refine wp_bi ?_) | (with_reducible refine wp_not ?_)
  | ((with_reducible refine' wp_v ?h1 ?_); case h1 => rfl) | ((with_reducible refine' wp_vm ?h1 ?_); case h1 => rfl) | ((with_reducible refine' wp_g ?h1 ?_); case h1 => rfl)
  | (with_reducible refine wp_call ?_) | (with_reducible refine sem_call ?_) | (with_reducible refine sem_mk ?_) | (with_reducible refine wp_evc ?_) | (with_reducible refine wp_evc0 ?_) | (with_reducible refine wp_evs ?_) | (with_reducible refine wp_evs0 ?_)
  | (with_reducible refine wp_and ?_) | (with_reducible refine wp_or ?_) | (with_reducible refine wp_andc ?_) | (with_reducible refine wp_orc ?_) | (with_reducible refine wp_and1 ?_) | (with_reducible refine wp_or1 ?_)
  | (with_reducible refine mid_nx ?_) | (with_reducible refine mid_rt ?_) | (with_reducible refine nxt_nx ?_) | (with_reducible refine nxt_rt ?_) | (with_reducible refine fin_rt ?_) | (with_reducible refine fin_nx ?_)
  | (with_reducible refine cap_sh ?_) | (with_reducible refine cap_fr ?_) | ((with_reducible refine' cap_rf ?h1 ?_); case h1 => rfl)
  | ((with_reducible refine asg_sh ?h1 ?_); (case h1 => exact Nat.le_of_ble_eq_true rfl); (try dsimp only [List.set_cons_zero, List.set_cons_succ, Int.reduceToNat])) | ((with_reducible refine asg_fr ?h1 ?_); (case h1 => exact Nat.le_of_ble_eq_true rfl); (try dsimp only [List.set_cons_zero, List.set_cons_succ, Int.reduceToNat]))
  | ((with_reducible refine' two_of ?h1 ?h2 ?h3 ?_); (case h1 => walk_at "vw"); (case h2 => walk_at "vw"); (case h3 => walk_at "op"))
  | ((with_reducible refine' cm_of ?h1 ?h2 ?h3 ?_); (case h1 => walk_at "vw"); (case h2 => walk_at "vw"); (case h3 => walk_at "op"))
  | ((with_reducible refine' bi_of ?h1 ?h2 ?_); (case h1 => walk_at "vw"); (case h2 => walk_at "op"))
  | ((with_reducible refine' not_of ?h1 ?h2 ?_); (case h1 => walk_at "vw"); (case h2 => rfl))
  | (with_reducible refine wp_tup ?_) | (with_reducible refine wp_lst ?_) | (with_reducible refine wp_chn ?_) | (with_reducible refine wp_setix ?_) | (with_reducible refine wp_no ?_) | (with_reducible refine wp_for ?_) | (with_reducible refine wp_lc ?_) | (with_reducible refine wp_isi ?_) | (with_reducible refine wp_ret0 ?_) | (with_reducible refine wp_conds0 ?_) | (with_reducible refine wp_conds ?_)
  | (with_reducible refine turn_nx ?_) | (with_reducible refine turn_rt ?_) | (with_reducible refine turn_bk ?_) | (with_reducible refine turn_ct ?_) | (with_reducible refine wp_me ?_) | (with_reducible refine wp_mu ?_) | (with_reducible refine wp_fld ?_) | (with_reducible refine wp_sl0 ?_) | (with_reducible refine wp_part0 ?_) | (with_reducible refine wp_part rfl ?_) | (with_reducible refine wp_raise ?_) | (with_reducible refine wp_ife ?_) | (with_reducible refine wp_neg ?_) | (with_reducible refine wp_lrng ?_) | (with_reducible refine wp_inv ?_) | (with_reducible refine wp_con ?_) | (with_reducible refine wp_cell ?_)
  | ((with_reducible refine' setix_ce ?h1 ?h2 ?h3 ?_); (case h1 => first | rfl | assumption); (case h2 => walk_at "vw"); (case h3 => rfl); (try dsimp only [List.set_cons_zero, List.set_cons_succ, Int.reduceToNat]))
  | ((with_reducible refine' setix_sl ?h1 ?h2 ?h3 ?_); (case h1 => rfl); (case h2 => walk_at "vw"); (case h3 => first | rfl | assumption); (try dsimp only [List.set_cons_zero, List.set_cons_succ, Int.reduceToNat]))
  | ((with_reducible refine' mu_ce ?h1 ?h2 ?_); (case h1 => first | rfl | assumption); (case h2 => walk_at "op"); (try dsimp only [List.set_cons_zero, List.set_cons_succ, Int.reduceToNat]))
  | ((with_reducible refine' mu_sl ?h1 ?h2 ?_); (case h1 => rfl); (case h2 => walk_at "op"); (try dsimp only [List.set_cons_zero, List.set_cons_succ, Int.reduceToNat]))
  | ((with_reducible refine' me_of ?h1 ?h2 ?h3 ?_); (case h1 => walk_at "vw"); (case h2 => rfl); (case h3 => walk_at "op"))
  | ((with_reducible refine' isi_of ?h1 ?h2 ?_); (case h1 => walk_at "vw"); (case h2 => rfl))
  | ((with_reducible refine' fld_of ?h1 ?h2 ?h3 ?_); (case h1 => walk_at "vw"); (case h2 => first | rfl | decide +kernel); (case h3 => rfl))
  | ((with_reducible refine' sl_of ?h1 ?h2 ?_); (case h1 => walk_at "vw"); (case h2 => walk_at "op"))
  | ((with_reducible refine' int_of ?h1 ?_); (case h1 => walk_at "vw"))
  | ((with_reducible refine' truu_of ?h1 ?h2 ?_); (case h1 => walk_at "vw"); (case h2 => rfl))
  | ((with_reducible refine' asgT_of ?h1 ?h2 ?_); (case h1 => walk_at "vw"); (case h2 => rfl); (try dsimp only [List.set_cons_zero, List.set_cons_succ, Int.reduceToNat]))
  | ((with_reducible refine And.intro ?h1 ?_); (case h1 => first | rfl | exact Nat.le_of_ble_eq_true rfl))
  | (with_reducible refine tr_T ?_) | (with_reducible refine tr_F ?_) | (with_reducible refine bt_T ?_) | (with_reducible refine bt_F ?_)
  | ((with_reducible refine tr_yes ?h1 ?_); case h1 => first | rfl | assumption) | ((with_reducible refine tr_no ?h1 ?_); case h1 => first | rfl | assumption)
  | ((with_reducible refine bt_yes ?h1 ?_); case h1 => first | rfl | assumption) | ((with_reducible refine bt_no ?h1 ?_); case h1 => first | rfl | assumption))
local macro_rules | `(tactic| walk_at "go") => `(tactic| repeat (walk_at "one"))
local macro_rules | `(tactic| walk_at "start") => `(tactic| dsimp only [List.map_cons, List.map_nil, List.length_cons, List.length_nil, Nat.reduceAdd, Nat.reduceSub, List.replicate, List.cons_append, List.nil_append])
local macro_rules | `(tactic| walk_at "gos") => `(tactic| repeat ((fail_if_success (with_reducible refine is_ite ?_)); walk_at "one"))
local macro_rules | `(tactic| walk_at "norm") => `(tactic| simp only [List.set_cons_zero, List.set_cons_succ, List.map_cons, List.map_nil, List.cons_append, List.nil_append, Stt.put])
local macro_rules | `(tactic| walk_at "op") => `(tactic| first | exact len_ints | exact ix_ints (by omega))
local macro_rules | `(tactic| walk_at "op") => `(tactic| first | exact sorted_g | exact ne_ints | exact eq_ints | exact net_ints | exact eqt_ints)
local macro_rules | `(tactic| walk_at "vw") => `(tactic| (show cellV _ _ = some _; assumption))
local macro_rules | `(tactic| walk_at "op") => `(tactic| first | exact in_ints | exact nin_ints | exact len_strs)
local macro_rules | `(tactic| walk_at "one") => `(tactic| ((with_reducible refine' wp_mk ?h1 ?_); case h1 => rfl))
open NumText TL
theorem in_strs {w : Str} {ws : List Str} : gCmp .In (.str w) (.lst (ws.map .str)) = some (decide (w ∈ ws)) := by
  have h1 : (ws.map D.str).all isFlat = true := by simp [isFlat]
  have h2 : ((ws.map D.str).any fun y => eqFl y (.str w)) = decide (w ∈ ws) := by
    clear h1
    induction ws with
    | nil => rfl
    | cons x r ih =>
      simp only [List.map_cons, List.any_cons]
      rw [ih]
      by_cases e : x = w
      · subst e; simp [eqFl]
      · have e' : ¬ w = x := fun z => e z.symm
        simp [eqFl, e, e']
  simp only [gCmp, gIn]
  rw [if_pos (by rw [h1]; rfl), h2]
theorem nin_strs {w : Str} {ws : List Str} : gCmp .NotIn (.str w) (.lst (ws.map .str)) = some (!decide (w ∈ ws)) := by
  have := in_strs (w := w) (ws := ws)
  simp only [gCmp] at this ⊢
  rw [this]; rfl
theorem any_strs {w : Str} (ws : List Str) {b : Bool} (h : ((ws.map D.str).any fun y => eqFl y (.str w)) = b) : decide (w ∈ ws) = b := by
  have h1 : gCmp .In (.str w) (.lst (ws.map .str)) = some ((ws.map D.str).any fun y => eqFl y (.str w)) := by
    simp only [gCmp, gIn]
    rw [if_pos (by simp [isFlat])]
  rw [in_strs] at h1
  rw [Option.some.inj h1]
  exact h
theorem deed_is {C : List Cell} {d : D} {x : Deed} (h : DeedR C d x) : gCmp .Is d .non = some false := by
  cases x with
  | add g m p => obtain ⟨_, _, rfl, _⟩ := h; rfl
  | one k a => obtain rfl : d = _ := h; rfl
  | two k a b => obtain rfl : d = _ := h; rfl
theorem deed_view {C : List Cell} {d : D} {x : Deed} (h : DeedR C d x) : cellV C d = some d := by
  cases x with
  | add g m p => obtain ⟨_, _, rfl, _⟩ := h; rfl
  | one k a => obtain rfl : d = _ := h; rfl
  | two k a b => obtain rfl : d = _ := h; rfl
theorem ne_str {a b : Str} : gCmp .NotEq (.str a) (.str b) = some (!decide (a = b)) := rfl
set_option maxHeartbeats 4000000 in
theorem s_reading (n : Nat) (text : Str) (hl : text.length ≤ 30000) (cs : List Cell) (hz : Zc0 cs) {Q : D → List Cell → Prop} {E : Exc → List Cell → Prop}
    (q : ∀ x d ext, Deed.ok x → x.txt = text → Zc0 (cs ++ ext) → DeedR (cs ++ ext) d x → Q d (cs ++ ext)) (e : ∀ ext, Zc0 (cs ++ ext) → None_ text → Q .non (cs ++ ext)) : Rs (semT tb (n + 3) 44 [.str text] cs) Q E := by
  refine rs_go (P := pgT tb (semT tb (n + 2))) (np := 1) (N := 6) (ir := ir44) ?_
  walk_at "start"
  unfold ir44
  have e0 : None_ text → Q .non cs := fun h => by
    have := e [] (by rw [List.append_nil]; exact hz) h
    rwa [List.append_nil] at this
  refine wp_mid (fun st => st = ⟨[.sh (.str text), .mu ((Txt.split text sp).map .str), .no, .no, .no, .no], cs⟩) ?_ fun st hst => ?_
  · walk_at "go"
    refine me_of rfl rfl (split_g (by omega)) ?_
    walk_at "go"
    rfl
  subst hst
  have hjoin := StrLaws.join_split text sp
  have hwl : ∀ w ∈ Txt.split text sp, w.length ≤ 100000 := fun w hw => by have := split_word hw; omega
  have hcnt := split_cnt text
  generalize hws : Txt.split text sp = ws at *
  cases ws with
  | nil => exact absurd hws (split_ne text)
  | cons w0 r =>
  have hr : r.length ≤ 30000 := by simp at hcnt; omega
  have hwr : ∀ w ∈ r, w.length ≤ 100000 := fun w hw => hwl w (List.mem_cons_of_mem _ hw)
  refine wp_mid (fun st => ∃ d ext s3 s4 s5, Zc0 (cs ++ ext) ∧ ((∃ x : Deed, x.ok ∧ DeedR (cs ++ ext) d x ∧ (x.txt ≠ text → None_ text)) ∨ (d = .non ∧ None_ text)) ∧ st = ⟨[.sh (.str text), .mu ((w0 :: r).map .str), .sh d, s3, s4, s5], cs ++ ext⟩) ?_ fun st hst => ?_
  · walk_at "go"
    refine two_of rfl rfl ix0 ?_
    walk_at "go"
    refine tr_dec (fun h => ?_) fun h => ?_
    · subst h
      walk_at "go"
      rw [cut_tl]
      walk_at "go"
      refine s_lot_read n r (by omega) hwr cs hz (fun g m p dg dm ext hz2 hR hg hm ha => ?_) fun ext hz2 hno => ?_
      · walk_at "go"
        refine ⟨_, ext, _, _, _, hz2, .inl ⟨.add g m p, hR, ⟨dg, dm, rfl, hg, hm⟩, fun hne y hy ey => ?_⟩, rfl⟩
        have h1 := split_txt hy
        rw [ey, hws] at h1
        cases y with
        | add g' m' p' =>
          obtain ⟨f1, f2, f3⟩ := ha g' m' p' hy (List.cons.inj h1).2
          apply hne
          rw [← ey, f1, f2, f3]
          show "add" ++ sp ++ lotText (isort g') (isort m') p' = "add" ++ sp ++ lotText g' m' p'
          rw [lotText_sort]
        | one k a => exact wd_add k (List.cons.inj h1).1.symm
        | two k a b => exact wd_add k (List.cons.inj h1).1.symm
      · walk_at "go"
        refine ⟨_, ext, _, _, _, hz2, .inr ⟨rfl, fun y hy ey => ?_⟩, rfl⟩
        have h1 := split_txt hy
        rw [ey, hws] at h1
        cases y with
        | add g' m' p' => exact hno g' m' p' hy (List.cons.inj h1).2
        | one k a => exact wd_add k (List.cons.inj h1).1.symm
        | two k a b => exact wd_add k (List.cons.inj h1).1.symm
    · have h0' : ∀ s, w0 :: r ≠ ("add" : Str) :: s := fun s z => h (List.cons.inj z).1
      refine wp_mid (fun st => st = ⟨[.sh (.str text), .mu ((w0 :: r).map .str), .no, .sh (.int 1), .no, .no], cs⟩) ?_ fun st hst => ?_
      · walk_at "go"
        rfl
      subst hst
      refine wp_mid (fun st => ∃ wn : Nat, (wn = 1 ∧ (∃ k, 1 ≤ k ∧ k ≤ 4 ∧ w0 = wd k) ∨ wn = 2 ∧ ∃ k, 5 ≤ k ∧ k ≤ 7 ∧ w0 = wd k) ∧ st = ⟨[.sh (.str text), .mu ((w0 :: r).map .str), .no, .sh (.int (wn : Int)), .no, .no], cs⟩) ?_ fun st hst => ?_
      · walk_at "go"
        refine two_of rfl rfl ix0 ?_
        walk_at "go"
        refine tr_bl (fun h5 => ?_) fun h5 => ?_
        · have h5 : w0 ∈ [wd 5, wd 6, wd 7] := of_decide_eq_true (any_strs [wd 5, wd 6, wd 7] h5)
          walk_at "go"
          refine ⟨2, .inr ⟨rfl, ?_⟩, rfl⟩
          simp only [List.mem_cons, List.not_mem_nil, or_false] at h5
          rcases h5 with h5 | h5 | h5
          · exact ⟨5, by decide, by decide, h5⟩
          · exact ⟨6, by decide, by decide, h5⟩
          · exact ⟨7, by decide, by decide, h5⟩
        · have h5 : ¬ w0 ∈ [wd 5, wd 6, wd 7] := of_decide_eq_false (any_strs [wd 5, wd 6, wd 7] h5)
          walk_at "go"
          refine two_of rfl rfl ix0 ?_
          walk_at "go"
          refine tr_not (fun h6 => ?_) fun h6 => ?_
          · have h6 : ¬ w0 ∈ [wd 1, wd 2, wd 3, wd 4] := of_decide_eq_false (any_strs [wd 1, wd 2, wd 3, wd 4] h6)
            walk_at "go"
            refine e0 fun y hy ey => ?_
            rcases wds_no_add hy ey hws h0' with ⟨k, a, k1, k2, h7, _⟩ | ⟨k, a, b, k1, k2, h7, _⟩
            · have hk : k = 1 ∨ k = 2 ∨ k = 3 ∨ k = 4 := by omega
              rw [(List.cons.inj h7).1] at h6
              rcases hk with rfl | rfl | rfl | rfl <;> exact h6 (by simp)
            · have hk : k = 5 ∨ k = 6 ∨ k = 7 := by omega
              rw [(List.cons.inj h7).1] at h5
              rcases hk with rfl | rfl | rfl <;> exact h5 (by simp)
          · have h6 : w0 ∈ [wd 1, wd 2, wd 3, wd 4] := of_decide_eq_true (any_strs [wd 1, wd 2, wd 3, wd 4] h6)
            walk_at "go"
            refine ⟨1, .inl ⟨rfl, ?_⟩, rfl⟩
            simp only [List.mem_cons, List.not_mem_nil, or_false] at h6
            rcases h6 with h6 | h6 | h6 | h6
            · exact ⟨1, by decide, by decide, h6⟩
            · exact ⟨2, by decide, by decide, h6⟩
            · exact ⟨3, by decide, by decide, h6⟩
            · exact ⟨4, by decide, by decide, h6⟩
      obtain ⟨wn, hwn, rfl⟩ := hst
      refine wp_mid (fun st => st = ⟨[.sh (.str text), .mu ((w0 :: r).map .str), .no, .sh (.int (wn : Int)), .mu (r.map (figD 30)), .no], cs⟩) ?_ fun st hst => ?_
      · walk_at "go"
        rw [cut_tl]
        refine lc_of (fun _ => true) (toFig 30) rfl rfl rfl (by simp; omega) (fun x _ => wp_conds0 ⟨rfl, rfl⟩) (fun x hx _ => ?_) ?_
        · obtain ⟨w, hw, rfl⟩ : ∃ w ∈ w0 :: r, x = .str w := by
            rw [← List.map_drop] at hx
            obtain ⟨w, hw, rfl⟩ := List.mem_map.mp hx
            exact ⟨w, List.mem_of_mem_drop hw, rfl⟩
          walk_at "norm"
          walk_at "go"
          refine s_figures (n + 1) 30 (by decide) w (hwl w hw) cs fun d hd => ?_
          walk_at "go"
          exact ⟨fig_eq hd, rfl⟩
        rw [figs_map]
        walk_at "go"
        rfl
      subst hst
      refine wp_mid (fun st => ∃ ns : List Nat, ns.length = wn ∧ r = ns.map sN ∧ (∀ x ∈ ns, (sN x).length ≤ 30) ∧ st = ⟨[.sh (.str text), .mu ((w0 :: r).map .str), .no, .sh (.int (wn : Int)), .mu ((nI ns).map .int), .no], cs⟩) ?_ fun st hst => ?_
      · walk_at "go"
        refine cm_of rfl rfl (in_figs (flat_figs _ _)) ?_
        refine bt_bl (fun hN => ?_) fun hN => ?_
        · walk_at "go"
          refine e0 fun y hy ey => ?_
          rcases wds_no_add hy ey hws h0' with ⟨k, a, k1, k2, h7, l1⟩ | ⟨k, a, b, k1, k2, h7, l1, l2⟩
          · rw [(List.cons.inj h7).2, figs_one l1] at hN
            cases hN
          · rw [(List.cons.inj h7).2, figs_two l1 l2] at hN
            cases hN
        · obtain ⟨ns, n1, n2, n3⟩ := all_fig hN
          rw [n3, nI_map]
          walk_at "go"
          refine tr_ndec (fun h8 => ?_) fun h8 => ?_
          · walk_at "go"
            refine e0 fun y hy ey => ?_
            have h9 : ns.length ≠ wn := fun z => h8 (by simp [z])
            have hrl : r.length = ns.length := by rw [n1]; simp
            rcases wds_no_add hy ey hws h0' with ⟨k, a, k1, k2, h7, l1⟩ | ⟨k, a, b, k1, k2, h7, l1, l2⟩
            · have z1 := congrArg List.length (List.cons.inj h7).2
              simp at z1
              rcases hwn with ⟨w1, _⟩ | ⟨w1, k', k1', k2', w2⟩
              · omega
              · have := wd_inj ⟨by omega, by omega⟩ ⟨by omega, by omega⟩ ((List.cons.inj h7).1.symm.trans w2)
                omega
            · have z1 := congrArg List.length (List.cons.inj h7).2
              simp at z1
              rcases hwn with ⟨w1, k', k1', k2', w2⟩ | ⟨w1, _⟩
              · have := wd_inj ⟨by omega, by omega⟩ ⟨by omega, by omega⟩ ((List.cons.inj h7).1.symm.trans w2)
                omega
              · omega
          · walk_at "go"
            refine ⟨ns, ?_, n1, n2, rfl⟩
            simp at h8
            omega
      obtain ⟨ns, hns, hrn, hln, rfl⟩ := hst
      rcases hwn with ⟨rfl, k, k1, k2, rfl⟩ | ⟨rfl, k, k1, k2, rfl⟩
      · obtain ⟨a, rfl⟩ : ∃ a, ns = [a] := by
          match ns, hns with
          | [a], _ => exact ⟨a, rfl⟩
        subst hrn
        have ha : (sN a).length ≤ 30 := hln a (by simp)
        walk_at "go"
        refine ⟨_, [], _, _, _, by rw [List.append_nil]; exact hz, .inl ⟨.one k a, ⟨k1, k2, sN_lt ha⟩, rfl, fun z => absurd ?_ z⟩, by rw [List.append_nil]; rfl⟩
        rw [txt_one]
        exact hjoin
      · obtain ⟨a, b, rfl⟩ : ∃ a b, ns = [a, b] := by
          match ns, hns with
          | [a, b], _ => exact ⟨a, b, rfl⟩
        subst hrn
        have ha : (sN a).length ≤ 30 := hln a (by simp)
        have hb : (sN b).length ≤ 30 := hln b (by simp)
        walk_at "go"
        refine ⟨_, [], _, _, _, by rw [List.append_nil]; exact hz, .inl ⟨.two k a b, ⟨k1, k2, sN_lt ha, sN_lt hb⟩, rfl, fun z => absurd ?_ z⟩, by rw [List.append_nil]; rfl⟩
        rw [txt_two]
        exact hjoin
  obtain ⟨d, ext, s3, s4, s5, hz2, hd, rfl⟩ := hst
  rcases hd with ⟨x, hx, hdx, hno⟩ | ⟨rfl, hno⟩
  · walk_at "go"
    refine cm_of (deed_view hdx) rfl (deed_is hdx) ?_
    walk_at "go"
    refine s_text n d x _ hx hdx ?_
    walk_at "go"
    refine tr_ndec (fun h => ?_) fun h => ?_
    · walk_at "go"
      exact e ext hz2 (hno h)
    · walk_at "go"
      exact q x d ext hx h hz2 hdx
  · walk_at "go"
    exact e ext hz2 hno
end K86
end
section
set_option maxHeartbeats 1000000
namespace K86
open PySem L2 Lit
local macro_rules | `(tactic| walk_at "vw") => `(tactic| first | rfl | exact view_own (by assumption) | exact view_ownI (by assumption))
local macro_rules | `(tactic| walk_at "op") => `(tactic| first
  | rfl
  | exact mul_r (by first | rfl | exact small_of (by omega))
  | exact mod_r (by omega)
  | exact fdiv_r (by omega)
  | exact add_s (by assumption)
  | exact len_s (by omega)
  | exact str_i (by omega)
  | exact append_g (by omega))
local macro_rules | `(tactic| walk_at "one") => `(tactic| first
  | (with_reducible refine wp_cons ?_) | (with_reducible refine wp_ite ?_) | (with_reducible refine wp_asg ?_) | (with_reducible refine wp_ret ?_) | (with_reducible refine wp_ex ?_) | (with_reducible refine wp_nil ?_)
  | (with_reducible refine wp_bin ?_) | (with_reducible refine wp_cmp ?_) | (with_reducible refine wp_k ?_) | (with_reducible refine wp_ix ?_) | (with_reducible refine wp_bi ?_) | (with_reducible refine wp_not ?_)
  | ((with_reducible refine' wp_v ?h1 ?_); case h1 => rfl) | ((with_reducible refine' wp_vm ?h1 ?_); case h1 => rfl) | ((with_reducible refine' wp_g ?h1 ?_); case h1 => rfl)
  | (with_reducible refine wp_call ?_) | (with_reducible refine sem_call ?_) | (with_reducible refine sem_mk ?_) | (with_reducible refine wp_evc ?_) | (with_reducible refine wp_evc0 ?_) | (with_reducible refine wp_evs ?_) | (with_reducible refine wp_evs0 ?_)
  | (with_reducible refine wp_and ?_) | (with_reducible refine wp_or ?_) | (with_reducible refine wp_andc ?_) | (with_reducible refine wp_orc ?_) | (with_reducible refine wp_and1 ?_) | (with_reducible refine wp_or1 ?_)
  | (with_reducible refine mid_nx ?_) | (with_reducible refine mid_rt ?_) | (with_reducible refine nxt_nx ?_) | (with_reducible refine nxt_rt ?_) | (with_reducible refine fin_rt ?_) | (with_reducible refine fin_nx ?_)
  | (with_reducible refine cap_sh ?_) | (with_reducible refine cap_fr ?_) | ((with_reducible refine' cap_rf ?h1 ?_); case h1 => rfl)
  | ((with_reducible refine asg_sh ?h1 ?_); (case h1 => exact Nat.le_of_ble_eq_true rfl); (try dsimp only [List.set_cons_zero, List.set_cons_succ, Int.reduceToNat])) | ((with_reducible refine asg_fr ?h1 ?_); (case h1 => exact Nat.le_of_ble_eq_true rfl); (try dsimp only [List.set_cons_zero, List.set_cons_succ, Int.reduceToNat]))
  | ((with_reducible refine' two_of ?h1 ?h2 ?h3 ?_); (case h1 => walk_at "vw"); (case h2 => walk_at "vw"); (case h3 => walk_at "op"))
  | ((with_reducible refine' cm_of ?h1 ?h2 ?h3 ?_); (case h1 => walk_at "vw"); (case h2 => walk_at "vw"); (case h3 => walk_at "op"))
  | ((with_reducible refine' bi_of ?h1 ?h2 ?_); (case h1 => walk_at "vw"); (case h2 => walk_at "op"))
  | ((with_reducible refine' not_of ?h1 ?h2 ?_); (case h1 => walk_at "vw"); (case h2 => rfl))
  | (with_reducible refine wp_tup ?_) | (with_reducible refine wp_lst ?_) | (with_reducible refine wp_chn ?_) | (with_reducible refine wp_setix ?_) | (with_reducible refine wp_no ?_) | (with_reducible refine wp_for ?_) | (with_reducible refine wp_lc ?_) | (with_reducible refine wp_isi ?_) | (with_reducible refine wp_ret0 ?_) | (with_reducible refine wp_conds0 ?_) | (with_reducible refine wp_conds ?_)
  | (with_reducible refine turn_nx ?_) | (with_reducible refine turn_rt ?_) | (with_reducible refine turn_bk ?_) | (with_reducible refine turn_ct ?_) | (with_reducible refine wp_me ?_) | (with_reducible refine wp_mu ?_) | (with_reducible refine wp_fld ?_) | (with_reducible refine wp_sl0 ?_) | (with_reducible refine wp_part0 ?_) | (with_reducible refine wp_part rfl ?_) | (with_reducible refine wp_raise ?_) | (with_reducible refine wp_ife ?_) | (with_reducible refine wp_neg ?_) | (with_reducible refine wp_lrng ?_) | (with_reducible refine wp_inv ?_) | (with_reducible refine wp_con ?_) | (with_reducible refine wp_cell ?_)
  | ((with_reducible refine' setix_ce ?h1 ?h2 ?h3 ?_); (case h1 => first | rfl | assumption); (case h2 => walk_at "vw"); (case h3 => rfl); (try dsimp only [List.set_cons_zero, List.set_cons_succ, Int.reduceToNat]))
  | ((with_reducible refine' setix_sl ?h1 ?h2 ?h3 ?_); (case h1 => rfl); (case h2 => walk_at "vw"); (case h3 => first | rfl | assumption); (try dsimp only [List.set_cons_zero, List.set_cons_succ, Int.reduceToNat]))
  | ((with_reducible refine' mu_ce ?h1 ?h2 ?_); (case h1 => first | rfl | assumption); (case h2 => walk_at "op"); (try dsimp only [List.set_cons_zero, List.set_cons_succ, Int.reduceToNat]))
  | ((with_reducible refine' mu_sl ?h1 ?h2 ?_); (case h1 => rfl); (case h2 => walk_at "op"); (try dsimp only [List.set_cons_zero, List.set_cons_succ, Int.reduceToNat]))
  | ((with_reducible refine' me_of ?h1 ?h2 ?h3 ?_); (case h1 => walk_at "vw"); (case h2 => rfl); (case h3 => walk_at "op"))
  | ((with_reducible refine' isi_of ?h1 ?h2 ?_); (case h1 => walk_at "vw"); (case h2 => rfl))
  | ((with_reducible refine' fld_of ?h1 ?h2 ?h3 ?_); (case h1 => walk_at "vw"); (case h2 => first | rfl | decide +kernel); (case h3 => rfl))
  | ((with_reducible refine' sl_of ?h1 ?h2 ?_); (case h1 => walk_at "vw"); (case h2 => walk_at "op"))
  | ((with_reducible refine' int_of ?h1 ?_); (case h1 => walk_at "vw"))
  | ((with_reducible refine' truu_of ?h1 ?h2 ?_); (case h1 => walk_at "vw"); (case h2 => rfl))
  | ((with_reducible refine' asgT_of ?h1 ?h2 ?_); (case h1 => walk_at "vw"); (case h2 => rfl); (try dsimp only [List.set_cons_zero, List.set_cons_succ, Int.reduceToNat]))
  | ((with_reducible refine And.intro ?h1 ?_); (case h1 => first | rfl | exact Nat.le_of_ble_eq_true rfl))
  | (with_reducible refine tr_T ?_) | (with_reducible refine tr_F ?_) | (with_reducible refine bt_T ?_) | (with_reducible refine bt_F ?_)
  | ((with_reducible refine tr_yes ?h1 ?_); case h1 => first | rfl | assumption) | ((with_reducible refine tr_no ?h1 ?_); case h1 => first | rfl | assumption)
  | ((with_reducible refine bt_yes ?h1 ?_); case h1 => first | rfl | assumption) | ((with_reducible refine bt_no ?h1 ?_); case h1 => first | rfl | assumption))
local macro_rules | `(tactic| walk_at "go") => `(tactic| repeat (walk_at "one"))
local macro_rules | `(tactic| walk_at "start") => `(tactic| dsimp only [List.map_cons, List.map_nil, List.length_cons, List.length_nil, Nat.reduceAdd, Nat.reduceSub, List.replicate, List.cons_append, List.nil_append])
local macro_rules | `(tactic| walk_at "gos") => `(tactic| repeat ((fail_if_success (with_reducible refine is_ite ?_)); walk_at "one"))
local macro_rules | `(tactic| walk_at "norm") => `(tactic| simp only [List.set_cons_zero, List.set_cons_succ, List.map_cons, List.map_nil, List.cons_append, List.nil_append, Stt.put])
local macro_rules | `(tactic| walk_at "op") => `(tactic| first | exact len_ints | exact ix_ints (by omega))
local macro_rules | `(tactic| walk_at "op") => `(tactic| first | exact sorted_g | exact ne_ints | exact eq_ints | exact net_ints | exact eqt_ints)
local macro_rules | `(tactic| walk_at "vw") => `(tactic| (show cellV _ _ = some _; assumption))
local macro_rules | `(tactic| walk_at "op") => `(tactic| first | exact in_ints | exact nin_ints | exact len_strs)
local macro_rules | `(tactic| walk_at "one") => `(tactic| ((with_reducible refine' wp_mk ?h1 ?_); case h1 => rfl))
open NumText TL
theorem s_told (n : Nat) (text : Str) (hl : text.length ≤ 30000) (cs : List Cell) (hz : Zc0 cs) {Q : D → List Cell → Prop} {E : Exc → List Cell → Prop} (q : ∀ x : Deed, x.ok → x.txt = text → Q (.tup [.str "read", x.obj]) cs) (e : None_ text → Q (.tup [.str "refused", .int 1]) cs) : Rs (semT tb (n + 6) 45 [.str text] cs) Q E := by
  refine rs_go (P := pgT tb (semT tb (n + 5))) (np := 1) (N := 2) (ir := ir45) ?_
  walk_at "start"
  unfold ir45
  refine wp_cons (wp_tryH ?_)
  walk_at "go"
  refine s_read_edit n text hl cs hz (fun x hx ex => ?_) fun hn => ?_
  · walk_at "go"
    exact q x hx ex
  · refine ⟨rfl, Nat.le_of_ble_eq_true rfl, fun z => (by cases z), fun _ => ⟨[.str "refused", .int 1], rfl, Nat.le_of_ble_eq_true rfl, ?_⟩⟩
    walk_at "go"
    exact e hn
theorem fl_ref : ∀ d ∈ [D.str "refused", D.int 1], Fl d := fun d hd => by
  simp only [List.mem_cons, List.not_mem_nil, or_false] at hd
  rcases hd with rfl | rfl <;> trivial
set_option maxHeartbeats 4000000 in
theorem s_stands (n : Nat) (text : Str) (hl : text.length ≤ 30000) (cs : List Cell) (hz : Zc0 cs) {Q : D → List Cell → Prop} {E : Exc → List Cell → Prop} (q : ∀ ext, Zc0 (cs ++ ext) → Q (.bl true) (cs ++ ext)) : Rs (semT tb (n + 7) 46 [.str text] cs) Q E := by
  refine rs_go (P := pgT tb (semT tb (n + 6))) (np := 1) (N := 3) (ir := ir46) ?_
  walk_at "start"
  unfold ir46
  walk_at "go"
  refine s_reading (n + 3) text hl cs hz (fun x d ext hx ex hz2 hdx => ?_) fun ext hz2 hno => ?_
  · walk_at "go"
    refine s_told n text hl _ hz2 (fun y hy ey => ?_) fun hno => absurd ex (hno x hx)
    walk_at "go"
    refine cm_of (deed_view hdx) rfl (deed_is hdx) ?_
    walk_at "go"
    refine s_is (n + 1) y x d _ hy (same_of hy hx (ey.trans ex.symm)) hdx ?_
    walk_at "go"
    obtain ⟨f, c, ds, e1, e2, e3⟩ := s_label (n + 3) y hy
    refine ⟨c, f, by rw [e1]; rfl, e2, ?_⟩
    walk_at "go"
    refine e3 _ ?_
    walk_at "go"
    rw [ey]
    refine s_same_str (n + 4) text _ ?_
    walk_at "go"
    exact q ext hz2
  · walk_at "go"
    refine s_told n text hl _ hz2 (fun y hy ey => absurd ey (hno y hy)) fun _ => ?_
    walk_at "go"
    refine s_same_tup (n + 3) _ fl_ref (by simp) _ ?_
    walk_at "go"
    exact q ext hz2
def wsum (ws : List Str) : Nat := (ws.map (·.length)).sum
theorem wsum_set (ws : List Str) (i : Nat) (w : Str) : wsum (ws.set i w) ≤ wsum ws + w.length := by
  unfold wsum
  induction ws generalizing i with
  | nil => simp
  | cons x r ih =>
    cases i with
    | zero => simp; omega
    | succ i =>
      have := ih i
      simp only [List.set_cons_succ, List.map_cons, List.sum_cons]
      omega
theorem wsum_app (a b : List Str) : wsum (a ++ b) = wsum a + wsum b := by
  unfold wsum
  rw [List.map_append, List.sum_append]
theorem wsum_ins (ws : List Str) (i : Nat) (w : Str) : wsum (ws.take i ++ [w] ++ ws.drop i) = wsum ws + w.length := by
  rw [wsum_app, wsum_app]
  have h := wsum_app (ws.take i) (ws.drop i)
  rw [List.take_append_drop] at h
  have : wsum [w] = w.length := by simp [wsum]
  omega
theorem wsum_del (ws : List Str) (i : Nat) : wsum (ws.eraseIdx i) ≤ wsum ws := by
  unfold wsum
  induction ws generalizing i with
  | nil => simp
  | cons x r ih =>
    cases i with
    | zero => simp
    | succ i =>
      have := ih i
      simp only [List.eraseIdx_cons_succ, List.map_cons, List.sum_cons]
      omega
theorem wsum_mem {ws : List Str} {w : Str} (h : w ∈ ws) : w.length ≤ wsum ws := sum_mem (List.mem_map_of_mem (f := fun w : Str => w.length) h)
theorem wjoin (ws : List Str) : (Txt.join sp ws).length ≤ wsum ws + ws.length := by
  rw [TL.join_eq]
  have := StrLaws.join_length_le sp ws
  rw [sp_len] at this
  unfold wsum
  omega
end K86
end
section
set_option maxHeartbeats 1000000
namespace K86
open PySem L2 Lit
local macro_rules | `(tactic| walk_at "vw") => `(tactic| first | rfl | exact view_own (by assumption) | exact view_ownI (by assumption))
local macro_rules | `(tactic| walk_at "op") => `(tactic| first
  | rfl
  | exact mul_r (by first | rfl | exact small_of (by omega))
  | exact mod_r (by omega)
  | exact fdiv_r (by omega)
  | exact add_s (by assumption)
  | exact len_s (by omega)
  | exact str_i (by omega)
  | exact append_g (by omega))
local macro_rules | `(tactic| walk_at "one") => `(tactic| first
  | (with_reducible refine wp_cons ?_) | (with_reducible refine wp_ite ?_) | (with_reducible refine wp_asg ?_) | (with_reducible refine wp_ret ?_) | (with_reducible refine wp_ex ?_) | (with_reducible refine wp_nil ?_)
  | (with_reducible refine wp_bin ?_) | (with_reducible refine wp_cmp ?_) | (with_reducible refine wp_k ?_) | (with_reducible refine wp_ix ?_) | (with_reducible refine wp_bi ?_) | (with_reducible refine wp_not ?_)
  | ((with_reducible refine' wp_v ?h1 ?_); case h1 => rfl) | ((with_reducible refine' wp_vm ?h1 ?_); case h1 => rfl) | ((with_reducible refine' wp_g ?h1 ?_); case h1 => rfl)
  | (with_reducible refine wp_call ?_) | (with_reducible refine sem_call ?_) | (with_reducible refine sem_mk ?_) | (with_reducible refine wp_evc ?_) | (with_reducible refine wp_evc0 ?_) | (with_reducible refine wp_evs ?_) | (with_reducible refine wp_evs0 ?_)
  | (with_reducible refine wp_and ?_) | (with_reducible refine wp_or ?_) | (with_reducible refine wp_andc ?_) | (with_reducible refine wp_orc ?_) | (with_reducible refine wp_and1 ?_) | (with_reducible refine wp_or1 ?_)
  | (with_reducible refine mid_nx ?_) | (with_reducible refine mid_rt ?_) | (with_reducible refine nxt_nx ?_) | (with_reducible refine nxt_rt ?_) | (with_reducible refine fin_rt ?_) | (with_reducible refine fin_nx ?_)
  | (with_reducible refine cap_sh ?_) | (with_reducible refine cap_fr ?_) | ((with_reducible refine' cap_rf ?h1 ?_); case h1 => rfl)
  | ((with_reducible refine asg_sh ?h1 ?_); (case h1 => exact Nat.le_of_ble_eq_true rfl); (try dsimp only [List.set_cons_zero, List.set_cons_succ, Int.reduceToNat])) | ((with_reducible refine asg_fr ?h1 ?_); (case h1 => exact Nat.le_of_ble_eq_true rfl); (try dsimp only [List.set_cons_zero, List.set_cons_succ, Int.reduceToNat]))
  | ((with_reducible refine' two_of ?h1 ?h2 ?h3 ?_); (case h1 => walk_at "vw"); (case h2 => walk_at "vw"); (case h3 => walk_at "op"))
  | ((with_reducible refine' cm_of ?h1 ?h2 ?h3 ?_); (case h1 => walk_at "vw"); (case h2 => walk_at "vw"); (case h3 => walk_at "op"))
  | ((with_reducible refine' bi_of ?h1 ?h2 ?_); (case h1 => walk_at "vw"); (case h2 => walk_at "op"))
  | ((with_reducible refine' not_of ?h1 ?h2 ?_); (case h1 => walk_at "vw"); (case h2 => rfl))
  | (with_reducible refine wp_tup ?_) | (with_reducible refine wp_lst ?_) | (with_reducible refine wp_chn ?_) | (with_reducible refine wp_setix ?_) | (with_reducible refine wp_no ?_) | (with_reducible refine wp_for ?_) | (with_reducible refine wp_lc ?_) | (with_reducible refine wp_isi ?_) | (with_reducible refine wp_ret0 ?_) | (with_reducible refine wp_conds0 ?_) | (with_reducible refine wp_conds ?_)
  | (with_reducible refine turn_nx ?_) | (with_reducible refine turn_rt ?_) | (with_reducible refine turn_bk ?_) | (with_reducible refine turn_ct ?_) | (with_reducible refine wp_me ?_) | (with_reducible refine wp_mu ?_) | (with_reducible refine wp_fld ?_) | (with_reducible refine wp_sl0 ?_) | (with_reducible refine wp_part0 ?_) | (with_reducible refine wp_part rfl ?_) | (with_reducible refine wp_raise ?_) | (with_reducible refine wp_ife ?_) | (with_reducible refine wp_neg ?_) | (with_reducible refine wp_lrng ?_) | (with_reducible refine wp_inv ?_) | (with_reducible refine wp_con ?_) | (with_reducible refine wp_cell ?_)
  | ((with_reducible refine' setix_ce ?h1 ?h2 ?h3 ?_); (case h1 => first | rfl | assumption); (case h2 => walk_at "vw"); (case h3 => rfl); (try dsimp only [List.set_cons_zero, List.set_cons_succ, Int.reduceToNat]))
  | ((with_reducible refine' setix_sl ?h1 ?h2 ?h3 ?_); (case h1 => rfl); (case h2 => walk_at "vw"); (case h3 => first | rfl | assumption); (try dsimp only [List.set_cons_zero, List.set_cons_succ, Int.reduceToNat]))
  | ((with_reducible refine' mu_ce ?h1 ?h2 ?_); (case h1 => first | rfl | assumption); (case h2 => walk_at "op"); (try dsimp only [List.set_cons_zero, List.set_cons_succ, Int.reduceToNat]))
  | ((with_reducible refine' mu_sl ?h1 ?h2 ?_); (case h1 => rfl); (case h2 => walk_at "op"); (try dsimp only [List.set_cons_zero, List.set_cons_succ, Int.reduceToNat]))
  | ((with_reducible refine' me_of ?h1 ?h2 ?h3 ?_); (case h1 => walk_at "vw"); (case h2 => rfl); (case h3 => walk_at "op"))
  | ((with_reducible refine' isi_of ?h1 ?h2 ?_); (case h1 => walk_at "vw"); (case h2 => rfl))
  | ((with_reducible refine' fld_of ?h1 ?h2 ?h3 ?_); (case h1 => walk_at "vw"); (case h2 => first | rfl | decide +kernel); (case h3 => rfl))
  | ((with_reducible refine' sl_of ?h1 ?h2 ?_); (case h1 => walk_at "vw"); (case h2 => walk_at "op"))
  | ((with_reducible refine' int_of ?h1 ?_); (case h1 => walk_at "vw"))
  | ((with_reducible refine' truu_of ?h1 ?h2 ?_); (case h1 => walk_at "vw"); (case h2 => rfl))
  | ((with_reducible refine' asgT_of ?h1 ?h2 ?_); (case h1 => walk_at "vw"); (case h2 => rfl); (try dsimp only [List.set_cons_zero, List.set_cons_succ, Int.reduceToNat]))
  | ((with_reducible refine And.intro ?h1 ?_); (case h1 => first | rfl | exact Nat.le_of_ble_eq_true rfl))
  | (with_reducible refine tr_T ?_) | (with_reducible refine tr_F ?_) | (with_reducible refine bt_T ?_) | (with_reducible refine bt_F ?_)
  | ((with_reducible refine tr_yes ?h1 ?_); case h1 => first | rfl | assumption) | ((with_reducible refine tr_no ?h1 ?_); case h1 => first | rfl | assumption)
  | ((with_reducible refine bt_yes ?h1 ?_); case h1 => first | rfl | assumption) | ((with_reducible refine bt_no ?h1 ?_); case h1 => first | rfl | assumption))
local macro_rules | `(tactic| walk_at "go") => `(tactic| repeat (walk_at "one"))
local macro_rules | `(tactic| walk_at "start") => `(tactic| dsimp only [List.map_cons, List.map_nil, List.length_cons, List.length_nil, Nat.reduceAdd, Nat.reduceSub, List.replicate, List.cons_append, List.nil_append])
local macro_rules | `(tactic| walk_at "gos") => `(tactic| repeat ((fail_if_success (with_reducible refine is_ite ?_)); walk_at "one"))
local macro_rules | `(tactic| walk_at "norm") => `(tactic| simp only [List.set_cons_zero, List.set_cons_succ, List.map_cons, List.map_nil, List.cons_append, List.nil_append, Stt.put])
local macro_rules | `(tactic| walk_at "op") => `(tactic| first | exact len_ints | exact ix_ints (by omega))
local macro_rules | `(tactic| walk_at "op") => `(tactic| first | exact sorted_g | exact ne_ints | exact eq_ints | exact net_ints | exact eqt_ints)
local macro_rules | `(tactic| walk_at "vw") => `(tactic| (show cellV _ _ = some _; assumption))
local macro_rules | `(tactic| walk_at "op") => `(tactic| first | exact in_ints | exact nin_ints | exact len_strs)
local macro_rules | `(tactic| walk_at "one") => `(tactic| ((with_reducible refine' wp_mk ?h1 ?_); case h1 => rfl))
open NumText TL
theorem ixN_nat {n i : Nat} (h : i < n) : ixN n (i : Int) = some i := by
  simp only [ixN]
  rw [if_pos (by omega)]
  simp [h]
theorem str_bound {ds : List D} {b : Nat} (h : ds.all (fun d => match d with
    | .str w => decide (w.length ≤ b)
    | _ => false) = true) {d : D} (hd : d ∈ ds) : ∃ w : Str, d = .str w ∧ w.length ≤ b := by
  have := List.all_eq_true.mp h d hd
  cases d with
  | str w => exact ⟨w, rfl, of_decide_eq_true this⟩
  | _ => cases this
theorem er_map {α β : Type} (f : α → β) : ∀ (l : List α) (i : Nat), (l.map f).eraseIdx i = (l.eraseIdx i).map f
  | [], _ => rfl
  | _ :: _, 0 => rfl
  | x :: r, i + 1 => by
    simp only [List.map_cons, List.eraseIdx_cons_succ, er_map f r i]
theorem pop_strs {ws : List Str} {i : Nat} (h : i < ws.length) (h2 : ws.length ≤ 100000) : gMu .popAt (ws.map .str) [.int (i : Int)] = some (.str ws[i], (ws.eraseIdx i).map .str) := by
  simp only [gMu]
  rw [ixN_nat (by rw [List.length_map]; exact h)]
  simp only
  rw [if_pos (by omega)]
  simp [h, er_map]
theorem ins_strs {ws : List Str} {i : Nat} {w : Str} (h : i < ws.length) (h2 : ws.length ≤ 100000) : gMu .insert (ws.map .str) [.int (i : Int), .str w] = some (.non, (ws.take i ++ [w] ++ ws.drop i).map .str) := by
  simp only [gMu]
  rw [if_pos (by rw [List.length_map]; omega)]
  simp [List.map_take, List.map_drop]
theorem len_0 : ("0" : Str).length = 1 := by decide +kernel
set_option maxHeartbeats 8000000 in
theorem s_spoilt (n : Nat) (text : Str) (hl : text.length ≤ 9000) (c : Cell) (rest : List Cell) (hc : SrcP c) {Q : D → List Cell → Prop} {E : Exc → List Cell → Prop} (q : ∀ t c', t.length ≤ 3 * text.length + 40 → SrcP c' → Q (.str t) (c' :: rest)) : Rs (semT tb (n + 4) 47 [.own 0, .str text] (c :: rest)) Q E := by
  refine rs_go (P := pgT tb (semT tb (n + 3))) (np := 2) (N := 9) (ir := ir47) ?_
  walk_at "start"
  unfold ir47
  refine wp_mid (fun st => st = ⟨[.sh (.own 0), .sh (.str text), .mu ((Txt.split text sp).map .str), .no, .no, .no, .no, .no, .no], c :: rest⟩) ?_ fun st hst => ?_
  · walk_at "go"
    refine me_of rfl rfl (split_g (by omega)) ?_
    walk_at "go"
    rfl
  subst hst
  have hsum : wsum (Txt.split text sp) + (Txt.split text sp).length = text.length + 1 := split_sum text
  have hwl : ∀ w ∈ Txt.split text sp, w.length ≤ text.length := fun w hw => split_word hw
  have hpos := List.length_pos_iff.mpr (split_ne text)
  generalize Txt.split text sp = ws at *
  have hws : ws.length ≤ 9001 := by omega
  walk_at "go"
  refine s_draw (n + 1) _ c rest (by decide) hc fun kind c1 k1 k2 hc1 => ?_
  walk_at "go"
  refine s_draw (n + 1) _ c1 rest (by omega) hc1 fun i1 c2 a1 a2 hc2 => ?_
  walk_at "go"
  refine s_draw (n + 1) _ c2 rest (by omega) hc2 fun i2 c3 b1 b2 hc3 => ?_
  obtain ⟨i, rfl⟩ := Int.eq_ofNat_of_zero_le a1
  obtain ⟨j, rfl⟩ := Int.eq_ofNat_of_zero_le b1
  have hi : i < ws.length := by omega
  have hj : j < ws.length := by omega
  walk_at "go"
  refine s_pick n _ (by simp) (by decide +kernel) c3 rest hc3 fun d c4 hd hc4 => ?_
  obtain ⟨w, rfl, hw⟩ := str_bound (b := 31) (by decide +kernel) hd
  clear hd
  refine asg_sh (Nat.le_of_ble_eq_true rfl) ?_
  refine nxt_nx ?_
  dsimp only [List.set_cons_zero, List.set_cons_succ]
  generalize Sl.sh (D.lst _) = s60
  refine wp_mid (fun st => ∃ (ws' : List Str) (l : List D) (s6 s8 : Sl) (c5 : Cell), l = ws'.map D.str ∧ wsum ws' + ws'.length ≤ 3 * text.length + 40 ∧ SrcP c5 ∧
    st = ⟨[.sh (.own 0), .sh (.str text), .mu l, .sh (.int kind), .sh (.int (i : Int)), .sh (.int (j : Int)), s6, .sh (.str w), s8], c5 :: rest⟩) ?_ fun st hst => ?_
  · have h8 : kind = 0 ∨ kind = 1 ∨ kind = 2 ∨ kind = 3 ∨ kind = 4 ∨ kind = 5 ∨ kind = 6 ∨ kind = 7 := by omega
    have wi := hwl _ (List.getElem_mem hi)
    have wj := hwl _ (List.getElem_mem hj)
    rcases h8 with rfl | rfl | rfl | rfl | rfl | rfl | rfl | rfl
    · walk_at "go"
      refine setix_sl rfl rfl (ixN_nat (by rw [List.length_map]; exact hi)) ?_
      walk_at "norm"
      walk_at "go"
      have := wsum_set ws i w
      exact ⟨ws.set i w, _, _, _, c4, (List.map_set ..).symm, by rw [List.length_set]; omega, hc4, rfl⟩
    · walk_at "go"
      refine mu_sl rfl (ins_strs hi (by omega)) ?_
      walk_at "norm"
      walk_at "go"
      have := wsum_ins ws i w
      exact ⟨_, _, _, _, c4, rfl, by rw [this]; simp only [List.length_append, List.length_take, List.length_drop, List.length_singleton]; omega, hc4, rfl⟩
    · walk_at "go"
      refine mu_sl rfl (append_g (by rw [List.length_map]; omega)) ?_
      walk_at "norm"
      walk_at "go"
      have := wsum_app ws [w]
      have h1 : wsum [w] = w.length := by simp [wsum]
      exact ⟨ws ++ [w], _, _, _, c4, by simp, by rw [List.length_append, List.length_singleton]; omega, hc4, rfl⟩
    · walk_at "go"
      refine mu_sl rfl (pop_strs hi (by omega)) ?_
      walk_at "norm"
      walk_at "go"
      have := wsum_del ws i
      have h1 := List.length_eraseIdx_le ws i
      exact ⟨_, _, _, _, c4, rfl, by omega, hc4, rfl⟩
    · walk_at "go"
      refine two_of rfl rfl (ix_strs hi) ?_
      walk_at "go"
      refine two_of rfl rfl (add_s (x := "0") (y := ws[i]) (by rw [len_0]; omega)) ?_
      walk_at "go"
      refine setix_sl rfl rfl (ixN_nat (by rw [List.length_map]; exact hi)) ?_
      walk_at "norm"
      walk_at "go"
      have := wsum_set ws i ("0" ++ ws[i])
      rw [Str.length_append, len_0] at this
      exact ⟨ws.set i ("0" ++ ws[i]), _, _, _, c4, (List.map_set ..).symm, by rw [List.length_set]; omega, hc4, rfl⟩
    · walk_at "go"
      refine two_of rfl rfl (ix_strs hi) ?_
      walk_at "go"
      refine s_pick n _ (by simp) (by decide +kernel) c4 rest hc4 fun d c5 hd hc5 => ?_
      obtain ⟨v, rfl, hv⟩ := str_bound (b := 1) (by decide +kernel) hd
      clear hd
      walk_at "go"
      refine two_of rfl rfl (add_s (x := ws[i]) (y := v) (by omega)) ?_
      walk_at "go"
      refine setix_sl rfl rfl (ixN_nat (by rw [List.length_map]; exact hi)) ?_
      walk_at "norm"
      walk_at "go"
      have := wsum_set ws i (ws[i] ++ v)
      rw [Str.length_append] at this
      exact ⟨ws.set i (ws[i] ++ v), _, _, _, c5, (List.map_set ..).symm, by rw [List.length_set]; omega, hc5, rfl⟩
    · walk_at "go"
      refine two_of rfl rfl (ix_strs hj) ?_
      walk_at "go"
      refine setix_sl rfl rfl (ixN_nat (by rw [List.length_map]; exact hi)) ?_
      walk_at "norm"
      walk_at "go"
      have := wsum_set ws i ws[j]
      exact ⟨ws.set i ws[j], _, _, _, c4, (List.map_set ..).symm, by rw [List.length_set]; omega, hc4, rfl⟩
    · walk_at "go"
      refine two_of rfl rfl (ix_strs hi) ?_
      walk_at "go"
      refine two_of rfl rfl (ix_strs hj) ?_
      walk_at "go"
      refine setix_sl rfl rfl (ixN_nat (by rw [List.length_map]; exact hi)) ?_
      walk_at "norm"
      walk_at "go"
      refine setix_sl rfl rfl (ixN_nat (by rw [List.length_set, List.length_map]; exact hj)) ?_
      walk_at "norm"
      walk_at "go"
      have h1 := wsum_set ws i ws[j]
      have h2 := wsum_set (ws.set i ws[j]) j ws[i]
      exact ⟨(ws.set i ws[j]).set j ws[i], _, _, _, c4, by rw [List.map_set, List.map_set], by rw [List.length_set, List.length_set]; omega, hc4, rfl⟩
  obtain ⟨ws', l, s6, s8, c5, rfl, hb, hc5, rfl⟩ := hst
  walk_at "go"
  refine me_of rfl rfl (join_g (ws := ws') (by rw [sp_len]; unfold wsum at hb; omega)) ?_
  walk_at "go"
  exact q _ c5 (Nat.le_trans (wjoin ws') hb) hc5
end K86
end
section
set_option maxHeartbeats 1000000
namespace K86
open PySem L2 Lit
local macro_rules | `(tactic| walk_at "vw") => `(tactic| first | rfl | exact view_own (by assumption) | exact view_ownI (by assumption))
local macro_rules | `(tactic| walk_at "op") => `(tactic| first
  | rfl
  | exact mul_r (by first | rfl | exact small_of (by omega))
  | exact mod_r (by omega)
  | exact fdiv_r (by omega)
  | exact add_s (by assumption)
  | exact len_s (by omega)
  | exact str_i (by omega)
  | exact append_g (by omega))
local macro_rules | `(tactic| walk_at "one") => `(tactic| first
  | (with_reducible refine wp_cons ?_) | (with_reducible refine wp_ite ?_) | (with_reducible refine wp_asg ?_) | (with_reducible refine wp_ret ?_) | (with_reducible refine wp_ex ?_) | (with_reducible refine wp_nil ?_)
  | (with_reducible refine wp_bin ?_) | (with_reducible refine wp_cmp ?_) | (with_reducible refine wp_k ?_) | (with_reducible refine wp_ix ?_) | (with_reducible refine wp_bi ?_) | (with_reducible refine wp_not ?_)
  | ((with_reducible refine' wp_v ?h1 ?_); case h1 => rfl) | ((with_reducible refine' wp_vm ?h1 ?_); case h1 => rfl) | ((with_reducible refine' wp_g ?h1 ?_); case h1 => rfl)
  | (with_reducible refine wp_call ?_) | (with_reducible refine sem_call ?_) | (with_reducible refine sem_mk ?_) | (with_reducible refine wp_evc ?_) | (with_reducible refine wp_evc0 ?_) | (with_reducible refine wp_evs ?_) | (with_reducible refine wp_evs0 ?_)
  | (with_reducible refine wp_and ?_) | (with_reducible refine wp_or ?_) | (with_reducible refine wp_andc ?_) | (with_reducible refine wp_orc ?_) | (with_reducible refine wp_and1 ?_) | (with_reducible refine wp_or1 ?_)
  | (with_reducible refine mid_nx ?_) | (with_reducible refine mid_rt ?_) | (with_reducible refine nxt_nx ?_) | (with_reducible refine nxt_rt ?_) | (with_reducible refine fin_rt ?_) | (with_reducible refine fin_nx ?_)
  | (with_reducible refine cap_sh ?_) | (with_reducible refine cap_fr ?_) | ((with_reducible refine' cap_rf ?h1 ?_); case h1 => rfl)
  | ((with_reducible refine asg_sh ?h1 ?_); (case h1 => exact Nat.le_of_ble_eq_true rfl); (try dsimp only [List.set_cons_zero, List.set_cons_succ, Int.reduceToNat])) | ((with_reducible refine asg_fr ?h1 ?_); (case h1 => exact Nat.le_of_ble_eq_true rfl); (try dsimp only [List.set_cons_zero, List.set_cons_succ, Int.reduceToNat]))
  | ((with_reducible refine' two_of ?h1 ?h2 ?h3 ?_); (case h1 => walk_at "vw"); (case h2 => walk_at "vw"); (case h3 => walk_at "op"))
  | ((with_reducible refine' cm_of ?h1 ?h2 ?h3 ?_); (case h1 => walk_at "vw"); (case h2 => walk_at "vw"); (case h3 => walk_at "op"))
  | ((with_reducible refine' bi_of ?h1 ?h2 ?_); (case h1 => walk_at "vw"); (case h2 => walk_at "op"))
  | ((with_reducible refine' not_of ?h1 ?h2 ?_); (case h1 => walk_at "vw"); (case h2 => rfl))
  | (with_reducible refine wp_tup ?_) | (with_reducible refine wp_lst ?_) | (with_reducible refine wp_chn ?_) | (with_reducible refine wp_setix ?_) | (with_reducible refine wp_no ?_) | (with_reducible refine wp_for ?_) | (with_reducible refine wp_lc ?_) | (with_reducible refine wp_isi ?_) | (with_reducible refine wp_ret0 ?_) | (with_reducible refine wp_conds0 ?_) | (with_reducible refine wp_conds ?_)
  | (with_reducible refine turn_nx ?_) | (with_reducible refine turn_rt ?_) | (with_reducible refine turn_bk ?_) | (with_reducible refine turn_ct ?_) | (with_reducible refine wp_me ?_) | (with_reducible refine wp_mu ?_) | (with_reducible refine wp_fld ?_) | (with_reducible refine wp_sl0 ?_) | (with_reducible refine wp_part0 ?_) | (with_reducible refine wp_part rfl ?_) | (with_reducible refine wp_raise ?_) | (with_reducible refine wp_ife ?_) | (with_reducible refine wp_neg ?_) | (with_reducible refine wp_lrng ?_) | (with_reducible refine wp_inv ?_) | (with_reducible refine wp_con ?_) | (with_reducible refine wp_cell ?_)
  | ((with_reducible refine' setix_ce ?h1 ?h2 ?h3 ?_); (case h1 => first | rfl | assumption); (case h2 => walk_at "vw"); (case h3 => rfl); (try dsimp only [List.set_cons_zero, List.set_cons_succ, Int.reduceToNat]))
  | ((with_reducible refine' setix_sl ?h1 ?h2 ?h3 ?_); (case h1 => rfl); (case h2 => walk_at "vw"); (case h3 => first | rfl | assumption); (try dsimp only [List.set_cons_zero, List.set_cons_succ, Int.reduceToNat]))
  | ((with_reducible refine' mu_ce ?h1 ?h2 ?_); (case h1 => first | rfl | assumption); (case h2 => walk_at "op"); (try dsimp only [List.set_cons_zero, List.set_cons_succ, Int.reduceToNat]))
  | ((with_reducible refine' mu_sl ?h1 ?h2 ?_); (case h1 => rfl); (case h2 => walk_at "op"); (try dsimp only [List.set_cons_zero, List.set_cons_succ, Int.reduceToNat]))
  | ((with_reducible refine' me_of ?h1 ?h2 ?h3 ?_); (case h1 => walk_at "vw"); (case h2 => rfl); (case h3 => walk_at "op"))
  | ((with_reducible refine' isi_of ?h1 ?h2 ?_); (case h1 => walk_at "vw"); (case h2 => rfl))
  | ((with_reducible refine' fld_of ?h1 ?h2 ?h3 ?_); (case h1 => walk_at "vw"); (case h2 => first | rfl | decide +kernel); (case h3 => rfl))
  | ((with_reducible refine' sl_of ?h1 ?h2 ?_); (case h1 => walk_at "vw"); (case h2 => walk_at "op"))
  | ((with_reducible refine' int_of ?h1 ?_); (case h1 => walk_at "vw"))
  | ((with_reducible refine' truu_of ?h1 ?h2 ?_); (case h1 => walk_at "vw"); (case h2 => rfl))
  | ((with_reducible refine' asgT_of ?h1 ?h2 ?_); (case h1 => walk_at "vw"); (case h2 => rfl); (try dsimp only [List.set_cons_zero, List.set_cons_succ, Int.reduceToNat]))
  | ((with_reducible refine And.intro ?h1 ?_); (case h1 => first | rfl | exact Nat.le_of_ble_eq_true rfl))
  | (with_reducible refine tr_T ?_) | (with_reducible refine tr_F ?_) | (with_reducible refine bt_T ?_) | (with_reducible refine bt_F ?_)
  | ((with_reducible refine tr_yes ?h1 ?_); case h1 => first | rfl | assumption) | ((with_reducible refine tr_no ?h1 ?_); case h1 => first | rfl | assumption)
  | ((with_reducible refine bt_yes ?h1 ?_); case h1 => first | rfl | assumption) | ((with_reducible refine bt_no ?h1 ?_); case h1 => first | rfl | assumption))
local macro_rules | `(tactic| walk_at "go") => `(tactic| repeat (walk_at "one"))
local macro_rules | `(tactic| walk_at "start") => `(tactic| dsimp only [List.map_cons, List.map_nil, List.length_cons, List.length_nil, Nat.reduceAdd, Nat.reduceSub, List.replicate, List.cons_append, List.nil_append])
local macro_rules | `(tactic| walk_at "gos") => `(tactic| repeat ((fail_if_success (with_reducible refine is_ite ?_)); walk_at "one"))
local macro_rules | `(tactic| walk_at "norm") => `(tactic| simp only [List.set_cons_zero, List.set_cons_succ, List.map_cons, List.map_nil, List.cons_append, List.nil_append, Stt.put])
local macro_rules | `(tactic| walk_at "op") => `(tactic| first | exact len_ints | exact ix_ints (by omega))
local macro_rules | `(tactic| walk_at "op") => `(tactic| first | exact sorted_g | exact ne_ints | exact eq_ints | exact net_ints | exact eqt_ints)
local macro_rules | `(tactic| walk_at "vw") => `(tactic| (show cellV _ _ = some _; assumption))
local macro_rules | `(tactic| walk_at "op") => `(tactic| first | exact in_ints | exact nin_ints | exact len_strs)
local macro_rules | `(tactic| walk_at "one") => `(tactic| ((with_reducible refine' wp_mk ?h1 ?_); case h1 => rfl))
open NumText TL
theorem src_low {c : Cell} (h : SrcP c) : lowC 0 c = true := by
  obtain ⟨ns, pos, cell, left, turn, raw, rfl, _⟩ := h
  have h1 : ∀ xs : List Int, lows 0 (xs.map .int) = true := lows_map fun a => by simp [low]
  simp only [srcC, lowC, lows, low, h1, Bool.and_self]
theorem z_src {c c' : Cell} {rest : List Cell} (h : SrcP c') (hz : Zc0 (c :: rest)) : Zc0 (c' :: rest) := by
  unfold Zc0 at *
  rw [List.all_cons, Bool.and_eq_true] at *
  exact ⟨src_low h, hz.2⟩
theorem s_source (n : Nat) (ns : List Int) (h63 : ns.length ≤ 63) {Q : D → List Cell → Prop} {E : Exc → List Cell → Prop} (q : ∀ c, SrcP c → Q (.own 0) [c]) : Rs (semT tb (n + 1) 0 [.scr ns] []) Q E := by
  refine rs_go (P := pgT tb (semT tb n)) (np := 1) (N := 1) (ir := ir0) ?_
  walk_at "start"
  unfold ir0
  walk_at "go"
  exact q (srcC ns 0 0 0 0 false) ⟨ns, 0, 0, 0, 0, false, rfl, Nat.zero_le _, h63⟩
/-- between two turns -/
def LW (ns : List Int) (st : Stt) : Prop := ∃ (c : Cell) (rest : List Cell) (s2 s3 s4 s5 s6 : Sl), SrcP c ∧ Zc0 (c :: rest) ∧ st = ⟨[.sh (.scr ns), .sh (.own 0), s2, s3, s4, s5, s6], c :: rest⟩
set_option maxHeartbeats 8000000 in
theorem s_law (n : Nat) (ns : List Int) (h63 : ns.length ≤ 63) : Rs (semT tb (n + 8) 48 [.scr ns] []) (fun d _ => d = .bl true) R0 := by
  refine rs_go (P := pgT tb (semT tb (n + 7))) (np := 1) (N := 7) (ir := ir48) ?_
  walk_at "start"
  unfold ir48
  refine wp_mid (fun st => LW ns st) ?_ fun st hst => ?_
  · walk_at "go"
    refine s_source (n + 6) ns h63 fun c hc => ?_
    walk_at "go"
    refine ⟨c, [], _, _, _, _, _, hc, ?_, rfl⟩
    unfold Zc0
    simp [src_low hc]
  -- the eight deeds
  refine wp_mid (fun st => LW ns st) ?_ fun st hst => ?_
  · obtain ⟨c, rest, s2, s3, s4, s5, s6, hc, hz, rfl⟩ := hst
    walk_at "go"
    refine ⟨_, rng1_it (m := 8) (by decide) _, ?_⟩
    refine for_rng (P := pgT tb (semT tb (n + 7))) (fun k st => LW ns st) (fun k st hk h => ?_) (fun st h => mid_nx h) _ ⟨c, rest, _, _, _, _, _, hc, hz, rfl⟩
    obtain ⟨c, rest, s2, s3, s4, s5, s6, hc, hz, rfl⟩ := h
    walk_at "go"
    refine s_deed (n + 1) (k : Int) (by omega) c rest hc fun x d c' hx hd hc' => ?_
    have hz' := z_src hc' hz
    walk_at "go"
    refine s_text (n + 5) d x _ hx hd ?_
    walk_at "go"
    refine s_made (n + 3) d x _ hz' hx hd ?_
    walk_at "go"
    obtain ⟨f, cl, ds, e1, e2, e3⟩ := s_label (n + 4) x hx
    refine ⟨cl, f, by rw [e1]; rfl, e2, ?_⟩
    walk_at "go"
    refine e3 _ ?_
    walk_at "go"
    refine s_same_str (n + 5) x.txt _ ?_
    walk_at "go"
    have hlt := txt_len hx
    refine s_reading (n + 4) x.txt (by omega) _ hz' (fun y d2 ext hy ey hz2 hd2 => ?_) fun ext hz2 hno => absurd rfl (hno x hx)
    walk_at "go"
    refine cm_of (deed_view hd2) rfl (deed_is hd2) ?_
    walk_at "go"
    refine s_stands n x.txt (by omega) _ hz2 fun ext2 hz3 => ?_
    walk_at "go"
    exact ⟨c', rest ++ ext ++ ext2, _, _, _, _, _, hc', hz3, rfl⟩
  -- six texts spoilt
  refine wp_mid (fun st => LW ns st) ?_ fun st hst => ?_
  · obtain ⟨c, rest, s2, s3, s4, s5, s6, hc, hz, rfl⟩ := hst
    walk_at "go"
    refine ⟨_, rng1_it (m := 6) (by decide) _, ?_⟩
    refine for_rng (P := pgT tb (semT tb (n + 7))) (fun k st => LW ns st) (fun k st hk h => ?_) (fun st h => mid_nx h) _ ⟨c, rest, _, _, _, _, _, hc, hz, rfl⟩
    obtain ⟨c, rest, s2, s3, s4, s5, s6, hc, hz, rfl⟩ := h
    refine wp_mid (fun st => ∃ (c : Cell) (rest : List Cell) (t : Str) (s2 s3 s4 s6 : Sl), SrcP c ∧ Zc0 (c :: rest) ∧ t.length ≤ 1000 ∧ st = ⟨[.sh (.scr ns), .sh (.own 0), s2, s3, s4, .sh (.str t), s6], c :: rest⟩) ?_ fun st hst => ?_
    · walk_at "go"
      refine s_draw (n + 5) _ c rest (by decide) hc fun r c1 r1 r2 hc1 => ?_
      walk_at "go"
      refine s_deed (n + 1) r ⟨r1, r2⟩ c1 rest hc1 fun x d c2 hx hd hc2 => ?_
      walk_at "go"
      refine s_text (n + 5) d x _ hx hd ?_
      walk_at "go"
      have hlt := txt_len hx
      refine s_spoilt (n + 3) x.txt (by omega) c2 rest hc2 fun t c3 ht hc3 => ?_
      walk_at "go"
      exact ⟨c3, rest, t, _, _, _, _, hc3, z_src hc3 hz, by omega, rfl⟩
    obtain ⟨c, rest, t, s2, s3, s4, s6, hc, hz, ht, rfl⟩ := hst
    refine wp_mid (fun st => ∃ (c : Cell) (rest : List Cell) (t : Str) (s2 s3 s4 s6 : Sl), SrcP c ∧ Zc0 (c :: rest) ∧ t.length ≤ 4000 ∧ st = ⟨[.sh (.scr ns), .sh (.own 0), s2, s3, s4, .sh (.str t), s6], c :: rest⟩) ?_ fun st hst => ?_
    · walk_at "go"
      refine s_draw (n + 5) _ c rest (by decide) hc fun r c1 r1 r2 hc1 => ?_
      walk_at "go"
      refine tr_dec (fun h => ?_) fun h => ?_
      · walk_at "go"
        refine s_spoilt (n + 3) t (by omega) c1 rest hc1 fun t2 c3 ht2 hc3 => ?_
        walk_at "go"
        exact ⟨c3, rest, t2, _, _, _, _, hc3, z_src hc3 hz, by omega, rfl⟩
      · walk_at "go"
        exact ⟨c1, rest, t, _, _, _, _, hc1, z_src hc1 hz, by omega, rfl⟩
    obtain ⟨c, rest, t, s2, s3, s4, s6, hc, hz, ht, rfl⟩ := hst
    walk_at "go"
    refine s_stands n t (by omega) _ hz fun ext hz3 => ?_
    walk_at "go"
    exact ⟨c, rest ++ ext, _, _, _, _, _, hc, hz3, rfl⟩
  obtain ⟨c, rest, s2, s3, s4, s5, s6, hc, hz, rfl⟩ := hst
  -- the fixed texts
  walk_at "go"
  refine ⟨_, rfl, ?_⟩
  refine wp_forF (fun xs st => (xs.all fun d => match d with
    | .str w => decide (w.length ≤ 1000)
    | _ => false) = true ∧ LW ns st) (fun x xs st h => ?_) (fun st h => ?_) _ _ ⟨by decide +kernel, c, rest, _, _, _, _, _, hc, hz, rfl⟩
  · obtain ⟨hx, c, rest, s2, s3, s4, s5, s6, hc, hz, rfl⟩ := h
    rw [List.all_cons, Bool.and_eq_true] at hx
    obtain ⟨hx, hxs⟩ := hx
    cases x with
    | str w =>
      have hw : w.length ≤ 1000 := of_decide_eq_true hx
      walk_at "go"
      refine s_stands n w (by omega) _ hz fun ext hz3 => ?_
      walk_at "go"
      exact ⟨hxs, c, rest ++ ext, _, _, _, _, _, hc, hz3, rfl⟩
    | _ => cases hx
  · walk_at "go"
    rfl
end K86
end
section
set_option maxHeartbeats 0
namespace K86
open PySem L2 Lit
theorem pure_law (ns : List Int) (h : ns.length ≤ 63) : ∃ cs, semT tb 40 48 [.scr ns] [] = some (.ret (.bl true), cs) := by
  have h := s_law 32 ns h
  cases e : semT tb 40 48 [.scr ns] [] with
  | none => rw [e] at h; exact h.h.elim
  | some z =>
    obtain ⟨r, cs⟩ := z
    rw [e] at h
    have h := h.h
    cases r with
    | ret d => exact ⟨cs, by rw [show d = .bl true from h]⟩
    | exc x => exact h.elim
end K86
open PySem PySem.W PySem.Calls PyProof.Rows
theorem PySem.Challenge.cw_lotsintrees_k86_whole_labels_read_back_holds : PySem.Challenge.rw_lotsintrees_k86_whole_labels_read_back.Holds := by
  w_on; o_law
  refine HandSHeadRun.head_any (r := OpenLaw.row PySem.Challenge.rw_lotsintrees_k86_whole_labels_read_back) (q := view (OpenLaw.row PySem.Challenge.rw_lotsintrees_k86_whole_labels_read_back).prog [61]) (H := Lit.hkT K86.Pm K86.tb) (ob := Lit.obT K86.Pm K86.tb) (M := 15000) (loose := K86.names) (d := HandSHeadRun.topDef (OpenLaw.row PySem.Challenge.rw_lotsintrees_k86_whole_labels_read_back).prog 61) (kwd := []) (Lit.obT_eq K86.Pm K86.tb)
    (by kernel_rfl) (fun s => by kernel_rfl) K86.run (by kernel_rfl) (by kernel_rfl) (by kernel_rfl) (by rfl) (by first | assumption | decide +kernel) (by decide +kernel) ⟨rfl, rfl, rfl, rfl, rfl, by decide +kernel⟩ ?hw ?hc
  case hw => w_witness2
  case hc =>
    refine LamX.walk_ofTsE (l := PySem.Challenge.rw_lotsintrees_k86_whole_labels_read_back) (n := 63) (k := 3 * 40) (x := "script") (CX := fun w => L2.CX K86.law.prog w) rfl (by decide) (by kernel_rfl) ⟨rfl, by decide, by decide⟩ ?F (fun w H s e s' z => ?_)
    case F =>
      intro w mg fa h Y G hmg0
      obtain ⟨K, KX, c, c2, cx⟩ := Y
      have hmg : mg ("law" : PySem.Str) = some (.ref fa) := by
        have e : (HandSHeadRun.topDef (OpenLaw.row PySem.Challenge.rw_lotsintrees_k86_whole_labels_read_back).prog 61).name = ("law" : PySem.Str) := by kernel_rfl
        rw [← e]
        exact hmg0
      exact ⟨K, KX, Lit.law_at KX G c c2 cx K86.B (li := 48) (t := K86.rows[48]) rfl rfl hmg rfl rfl rfl rfl fun ns hl _ => K86.pure_law ns hl⟩
    obtain ⟨_, _, _, _, _, _, _, _, _, _, _, _, hE⟩ := z
    exact hE
end
