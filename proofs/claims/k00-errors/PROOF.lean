import PyProof.Rows.All
import Wide.All
import OpenK.AllK
import Wide.FinOn
import KE.KExcSuper
import HandS.ForMost
import HandS.ForExc
import HandS.ExcInit
import HandS.HeadHook4
import HandS.Head2
import PySem.Challenge.RW_unmissed_k00_errors
import HandS.Star
import HandS.StrMore
import HandS.Zip
import HandS.CallSlots
import HandS.IsInst
import HandS.Flow
import HandS.TupAny
import HandS.RaiseMore
import HandS.ExcSuper
import HandS.ReplaceDef
import HandS.ExcField
import HandS.ExcIs
import HandS.OwnEq
import HandS.DeepEq
import HandS.DictComp
import HandS.TupSets
import HandS.Small
import HandS.Style
import PyProof.RulesMatch
import HandS.Defaults
import HandS.HeadEnd
import HandS.Ends
set_option Elab.async false
set_option linter.all false
set_option maxRecDepth 100000
namespace Ev
open PySem L2 PySem.Spec PyProof.Rows
noncomputable section
def simpleArgs (p : Arguments) (ps : List Str) : Bool := p.posonlyargs.isEmpty && (p.kwonlyargs.isEmpty && (p.vararg.isNone && (p.kwarg.isNone && decide (p.args.map (·.arg) = ps))))
theorem ba {a b : Bool} (h : (a && b) = true) : a = true ∧ b = true := Bool.and_eq_true_iff.mp h
def oexB (K : PySem.W.Frag) (C : Addr) : Bool := match K.lookup C with
  | some ⟨.type t, _, .cls cd, sl⟩ => decide (t = "type") && (cd.hasDict && (!cd.hasDel && (match cd.mro, sl.toList with
    | .ref C' :: bm, [_, _, _, _, some (.builtin n), _] => decide (C' = C) && (decide (n = "ValueError.__new__") && PySem.HandSPX.refsVE bm)
    | _, _ => false)))
  | _ => false
def uexB (K : PySem.W.Frag) (D C : Addr) : Bool := oexB K C && (decide (PySem.W.findIn K (.ref C) "__setattr__" = some (some (.builtin "object.__setattr__"))) && (decide (PySem.W.subIn K (.ref C) (.type "BaseException") = some true) && (decide (PySem.W.typeIn K (.ref C) = some (.type "type")) && (PySem.W.keepIn K (.ref C) &&
  (decide (PySem.W.mroIn K C (.ref D) = some true) && (decide (PySem.W.ks_superIn K C D "__init__" = some (some (.builtin "ValueError.__init__"))) && (decide (PySem.W.subIn K (.ref C) (.type "ValueError") = some true) && decide (PySem.W.findIn K (.ref C) "value" = some none))))))))
def excB (K : PySem.W.Frag) (C : Addr) : Bool := decide (PySem.W.findIn K (.ref C) "__getattribute__" = some (some (.builtin "BaseException.__getattribute__"))) && (decide (PySem.W.findIn K (.ref C) "__getattr__" = some none) && (decide (PySem.W.subIn K (.ref C) (.type "BaseException") = some true) && (PySem.W.hasDictIn K C &&
  (decide (PySem.W.findIn K (.ref C) "__class__" = some (some (.builtin "object.__class__"))) && (decide (PySem.W.specialIn K (.builtin "object.__class__") "__get__" = some (some (.builtin "getset_descriptor.__get__"))) && (decide (PySem.W.takesIn K (.builtin "object.__class__") = some true) &&
  (decide (PySem.W.mroIn K C (.type "object") = some true) && decide (PySem.W.findIn K (.ref C) "__eq__" = some (some (.builtin "object.__eq__"))))))))))
def initBodyB : List Stmt → Bool
  | [.Expr (.Call (.Attribute (.Call (.Name a _) [] [] _) b p2) [.Name c _] [] p4) _, .Assign [.Attribute (.Name d _) e _] (.Name f _) _] => decide (a = "super") && (decide (b = "__init__") && (decide (c = "value") && (decide (d = "self") && (decide (e = "value") && (decide (f = "value") && (p2.endLine == p4.line))))))
  | _ => false
def scopeInitB (sc : Scope) : Bool := decide (sc.kind = .function) && (!sc.isCoroutine && (!sc.isGenerator && (decide (sc.names.lookup ("self" : Str) = some .local) && (decide (sc.names.lookup ("value" : Str) = some .local) && (decide (sc.names.lookup ("super" : Str) = some .globalImplicit) && (decide (sc.names.lookup ("__class__" : Str) = some .free) && sc.names.all fun x => decide (x.2 ≠ .cell)))))))
def headB (p : Arguments) : Bool := match (p.posonlyargs ++ p.args).head? with
  | some a => decide (a.arg = "self")
  | none => false
def bodyB : FuncBody → Bool
  | .stmts b => initBodyB b
  | _ => false
def noneB : Value → Bool
  | .none => true
  | _ => false
def closB (K : PySem.W.Frag) (D : Addr) : List (Str × Addr) → Bool
  | [(x, cc)] => decide (x = "__class__") && (match K.lookup cc with
    | some ⟨_, _, .cell (some (.ref D')), _⟩ => decide (D' = D)
    | _ => false)
  | _ => false
def codeB (P : Program) (K : PySem.W.Frag) (q : Str) : Value → Bool
  | .ref c => PySem.W.codeIn K (.ref c) q && (match K.lookup c with
    | some ⟨_, _, .fields vs, _⟩ => (match (vs : Array Value)[2]? with
      | some (Value.str file _) => ((P.main.file : Str) == file)
      | _ => false)
    | _ => false)
  | _ => false
def initFdB (P : Program) (K : PySem.W.Frag) (D : Addr) (fd : FuncData) : Bool := decide (fd.globals = mainGlobals) && (decide (fd.builtins = builtinsNs) && (bodyB fd.body && (scopeInitB fd.scope && (headB fd.params && (simpleArgs fd.params ["self", "value"] && (noneB fd.defaults && (closB K D fd.closure && codeB P K fd.qualname fd.code)))))))
def fdB (K : PySem.W.Frag) (f : Addr) (t : FuncData → Bool) : Bool := match K.lookup f with
  | some ⟨_, _, .func fd, _⟩ => t fd
  | _ => false
def initB (P : Program) (K : PySem.W.Frag) (D fI : Addr) : Bool := decide (PySem.W.nsIn K mainGlobals "super" = some none) && (!((P.main.scope.names.lookup ("super" : Str)).isSome) && (decide (PySem.W.nsIn K PySem.cStatics "thirdparty.any" = some none) && ((PySem.W.clsIn K D).isSome && (decide (PySem.W.typeIn K (.ref fI) = some (.type "function")) && fdB K fI (initFdB P K D)))))
def dvC : He.Dv → Bool
  | .non => true
  | .bl _ => true
  | .int _ => true
  | .str _ => true
  | _ => false
inductive CoV where
  | int (i : Int) | str (z : Str) | tup (vs : List He.Dv)
structure Pg where
  P : Program
  cn : List Str
  xn : List Str
  nm : List Str
  fv : Nat
  fn : List (He.DefD × List Str)
  fnN : List (Str × Nat)
  clN : List (Str × (Nat × Nat))
  meN : List (Str × (Nat × Nat))
  owN : List (Nat × Nat)
  co : List (Str × CoV)
  ty : List (Str × String)
  bi : List Str
  tks : List String
  tys : List String
  jn : Nat → Bool
  as : List Addr
def par (d : He.DefD) : List Str := d.params.args.map (·.arg)
def subTy (n m : String) : Bool := n == m || (n == "bool" && m == "int")
def Pg.cnm (p : Pg) (c : Nat) : Str := (p.cn ++ p.xn).getD c Str.empty
def Pg.ca (p : Pg) (K : PySem.W.Frag) (c : Nat) : Addr := He.ga K (p.cnm c)
def Pg.D (p : Pg) (K : PySem.W.Frag) : Addr := p.ca K p.cn.length
def Pg.fI (p : Pg) (K : PySem.W.Frag) : Addr := He.ma K (p.D K) "__init__"

def scB (d : He.DefD) (N : List Str) : Bool := decide (d.scope.kind = .function) && (!d.scope.isCoroutine && (!d.scope.isGenerator && (decide N.Nodup && (decide (N.take (par d).length = par d) && ((par d).all (fun x => decide (d.scope.names.lookup x = some .local) || decide (d.scope.names.lookup x = some .cell)) && d.scope.names.all fun y => decide (y.2 ≠ .free))))))
/-- a def is plain (no look at the heap) -/
def plainB (d : He.DefD) (N : List Str) : Bool := scB d N && (simpleArgs d.params (par d) && (d.dfl.all dvC && (Nat.ble d.dfl.length (par d).length && decide ((par d).Nodup))))
def coB (K : PySem.W.Frag) (q : Str × CoV) : Bool := match q.2 with
  | .int i => (He.Fa.int q.1 i).ok K
  | .str z => (He.Fa.str q.1 z).ok K
  | .tup vs => vs.all dvC && ((He.Fa.glo q.1).ok K && He.tupB K q.1 vs)
def isO (a b : Option Bool) : Bool := decide (a = b)
def Pg.clsL (p : Pg) : List Nat := List.range (p.cn.length + p.xn.length)
def Pg.isiB (p : Pg) (K : PySem.W.Frag) : Bool := (p.tks.all fun n => (p.tys.all fun m => isO (PySem.W.kitOne K (.type n) (.type m)) (some (subTy n m))) && p.clsL.all fun c => isO (PySem.W.kitOne K (.type n) (.ref (p.ca K c))) (some false)) &&
  (p.clsL.all fun c => (p.tys.all fun m => isO (PySem.W.kitOne K (.ref (p.ca K c)) (.type m)) (some (Nat.ble p.cn.length c && m == "ValueError"))) && p.clsL.all fun e => isO (PySem.W.kitOne K (.ref (p.ca K c)) (.ref (p.ca K e))) (some (Nat.beq c e || (Nat.ble p.cn.length c && Nat.beq e p.cn.length))))
/-- what is asked of the written part -/
def Pg.plainCk (p : Pg) : Bool := (p.fn.all fun d => plainB d.1 d.2) && (decide p.nm.Nodup && (decide (p.nm[p.fv]? = some ("value" : Str)) && ((p.meN.all fun q => !(p.nm.contains q.1)) &&
  ((p.fnN.all fun q => match p.fn[q.2]? with
    | some d => decide (d.1.at_ = (q.1, none))
    | none => false) &&
  ((p.clN.all fun q => match p.fn[q.2.2]?, p.cn[q.2.1]? with
    | some d, some C => decide (C = q.1) && decide (d.1.at_ = (q.1, some ("__init__" : Str)))
    | _, _ => false) &&
  ((p.meN.all fun q => match p.fn[q.2.2]?, p.cn[q.2.1]? with
    | some d, some C => decide (d.1.at_ = (C, some q.1))
    | _, _ => false) &&
  ((p.owN.all fun q => match p.fn[q.2]?, p.cn[q.1]? with
    | some d, some C => decide (d.1.at_ = (C, some ("__eq__" : Str))) && (d.1.dfl.isEmpty && decide ((par d.1).length = 2))
    | _, _ => false) &&
  ((p.ty.all fun q => decide (bootBuiltins q.1 = some (.type q.2))) && (Nat.blt 0 p.xn.length)))))))))
def Pg.ck (p : Pg) (K : PySem.W.Frag) : Bool := (p.cn.all fun C => (He.Fa.cls C).ok K && (p.nm.all (fun f => (He.Fa.noat C f).ok K) && (decide (PySem.W.findIn K (.ref (He.ga K C)) "__class__" = some (some (.builtin "object.__class__"))) && decide (PySem.W.mroIn K (He.ga K C) (.type "object") = some true)))) &&
  ((p.xn.all fun C => (He.Fa.glo C).ok K && (uexB K (p.D K) (He.ga K C) && (excB K (He.ga K C) && decide (PySem.W.findIn K (.ref (He.ga K C)) "__init__" = some (some (.ref (p.fI K))))))) &&
  (initB p.P K (p.D K) (p.fI K) &&
  ((p.fnN.all fun q => (He.Fa.glo q.1).ok K) &&
  ((p.clN.all fun q => (He.Fa.glo q.1).ok K && (He.Fa.mkr q.1).ok K) &&
  ((p.meN.all fun q => (He.Fa.meth ((p.cn).getD q.2.1 Str.empty) q.1).ok K) &&
  ((p.owN.all fun q => (He.Fa.meth ((p.cn).getD q.1 Str.empty) "__eq__").ok K) &&
  ((p.co.all (coB K)) &&
  ((p.ty.all fun q => (He.Fa.free q.1).ok K) &&
  ((p.bi.all fun q => (He.Fa.free q).ok K) &&
  (decide (PySem.W.specialIn K (.builtin "object.__class__") "__get__" = some (some (.builtin "getset_descriptor.__get__"))) && (decide (PySem.W.takesIn K (.builtin "object.__class__") = some true) && p.isiB K)))))))))))

def Pg.fns (p : Pg) : List He.DefD := p.fn.map (·.1)
def obsW (p : Pg) (g : Addr → Option Obj) : He.AlD × Bool := (He.obsD [.glo "law"] p.fns (He.frT g p.as), p.ck (He.frT g p.as))
def Pg.hk (p : Pg) : PySem.W.Hook where
  α := He.AlD × Bool
  obs := fun s => obsW p s.heap.get?
  val := fun _ => (He.valD p.fns, true)
  says := fun _ h => ∃ K : PySem.W.Frag, K.In h ∧ He.SaysD [.glo "law"] p.fns K ∧ p.ck K = true
  of := fun _ _ e => ⟨_, He.frT_in, congrArg (fun z : He.AlD × Bool => z.1) e, congrArg (fun z : He.AlD × Bool => z.2) e⟩
  keeps := fun _ _ _ ⟨K, hK, c⟩ k => ⟨K, PySem.W.Frag.In.keeps hK k, c⟩
def Pg.ob (p : Pg) (s : PySem.W.SharedT) : He.AlD × Bool := obsW p (HandSHeadRun.getT s)
theorem ob_eq (p : Pg) (s : PySem.W.SharedT) : p.ob s = p.hk.obs s.abs := by
  have e : HandSHeadRun.getT s = s.abs.heap.get? := funext (HandSHeadRun.getT_eq s)
  show obsW p (HandSHeadRun.getT s) = obsW p s.abs.heap.get?
  rw [e]
end
end Ev
set_option Elab.async false
set_option linter.all false
set_option maxRecDepth 100000
set_option maxHeartbeats 0
namespace K00
open PySem PySem.Spec PyProof.Rows L2 Ev
def top (i : Nat) : Stmt := PySem.Challenge.pw_unmissed_k00_errors.main.body.getD i (.Pass ⟨0, 0, 0, 0⟩)

def d0 : He.DefD × List Str := (⟨("_wall", none), "_wall", "_wall", defArgs (top 0), defBody (top 0), defScope (top 0), [], []⟩, ["k"])
def d1 : He.DefD × List Str := (⟨("is_name", none), "is_name", "is_name", defArgs (top 35), defBody (top 35), defScope (top 35), [], []⟩, ["value", "sign"])
def d2 : He.DefD × List Str := (⟨("figure_of", none), "figure_of", "figure_of", defArgs (top 36), defBody (top 36), defScope (top 36), [], []⟩, ["word", "least", "most", "sign", "number"])
def d3 : He.DefD × List Str := (⟨("greatest_part", none), "greatest_part", "greatest_part", defArgs (top 37), defBody (top 37), defScope (top 37), [], []⟩, ["one", "other"])
def d4 : He.DefD × List Str := (⟨("least_common", none), "least_common", "least_common", defArgs (top 38), defBody (top 38), defScope (top 38), [], []⟩, ["one", "other"])
def d5 : He.DefD × List Str := (⟨("parts_of", none), "parts_of", "parts_of", defArgs (top 44), defBody (top 44), defScope (top 44), [], []⟩, ["text", "found", "begin", "depth", "at", "sign"])
def d6 : He.DefD × List Str := (⟨("term_of", none), "term_of", "term_of", defArgs (top 45), defBody (top 45), defScope (top 45), [.int 4], []⟩, ["text", "names", "left", "number", "word", "bracket", "rest", "parts", "terms", "part", "term"])
def d7 : He.DefD × List Str := (⟨("Reader", some "__init__"), "__init__", "Reader.__init__", defArgs (inClass (top 60) 0), defBody (inClass (top 60) 0), defScope (inClass (top 60) 0), [], []⟩, ["self", "text"])
def d8 : He.DefD × List Str := (⟨("Reader", some "line"), "line", "Reader.line", defArgs (inClass (top 60) 1), defBody (inClass (top 60) 1), defScope (inClass (top 60) 1), [], []⟩, ["self", "steps", "line", "rest"])
def d9 : He.DefD × List Str := (⟨("Reader", some "words"), "words", "Reader.words", defArgs (inClass (top 60) 2), defBody (inClass (top 60) 2), defScope (inClass (top 60) 2), [], []⟩, ["self", "steps", "word", "many", "line", "words"])
def d10 : He.DefD × List Str := (⟨("Reader", some "starts"), "starts", "Reader.starts", defArgs (inClass (top 60) 3), defBody (inClass (top 60) 3), defScope (inClass (top 60) 3), [], []⟩, ["self", "steps", "word", "line"])
def d11 : He.DefD × List Str := (⟨("Reader", some "want"), "want", "Reader.want", defArgs (inClass (top 60) 4), defBody (inClass (top 60) 4), defScope (inClass (top 60) 4), [], []⟩, ["self", "truth"])
def d12 : He.DefD × List Str := (⟨("Reader", some "sized"), "sized", "Reader.sized", defArgs (inClass (top 60) 5), defBody (inClass (top 60) 5), defScope (inClass (top 60) 5), [], []⟩, ["self", "steps", "word", "least", "most", "words", "size"])
def d13 : He.DefD × List Str := (⟨("Reader", some "numbered"), "numbered", "Reader.numbered", defArgs (inClass (top 60) 6), defBody (inClass (top 60) 6), defScope (inClass (top 60) 6), [], []⟩, ["self", "words", "least", "most", "line", "many", "found", "number"])
def d14 : He.DefD × List Str := (⟨("Draft", some "__init__"), "__init__", "Draft.__init__", defArgs (inClass (top 61) 0), defBody (inClass (top 61) 0), defScope (inClass (top 61) 0), [], []⟩, ["self", "text"])
def d15 : He.DefD × List Str := (⟨("Draft", some "read_calendars"), "read_calendars", "Draft.read_calendars", defArgs (inClass (top 61) 1), defBody (inClass (top 61) 1), defScope (inClass (top 61) 1), [], []⟩, ["self", "reader", "row", "rounds", "name", "size"])
def d16 : He.DefD × List Str := (⟨("Draft", some "read_doors"), "read_doors", "Draft.read_doors", defArgs (inClass (top 61) 2), defBody (inClass (top 61) 2), defScope (inClass (top 61) 2), [], []⟩, ["self", "reader", "row", "name", "size"])
def d17 : He.DefD × List Str := (⟨("Draft", some "read_clients"), "read_clients", "Draft.read_clients", defArgs (inClass (top 61) 3), defBody (inClass (top 61) 3), defScope (inClass (top 61) 3), [], []⟩, ["self", "reader", "words", "draft", "client"])
def d18 : He.DefD × List Str := (⟨("ClientDraft", some "__init__"), "__init__", "ClientDraft.__init__", defArgs (inClass (top 62) 0), defBody (inClass (top 62) 0), defScope (inClass (top 62) 0), [], []⟩, ["self", "draft", "name"])
def d19 : He.DefD × List Str := (⟨("ClientDraft", some "read"), "read", "ClientDraft.read", defArgs (inClass (top 62) 1), defBody (inClass (top 62) 1), defScope (inClass (top 62) 1), [], []⟩, ["self", "reader", "draft"])
def d20 : He.DefD × List Str := (⟨("ClientDraft", some "names"), "names", "ClientDraft.names", defArgs (inClass (top 62) 2), defBody (inClass (top 62) 2), defScope (inClass (top 62) 2), [], []⟩, ["self", "found", "name", "size", "within"])
def d21 : He.DefD × List Str := (⟨("ClientDraft", some "read_cells"), "read_cells", "ClientDraft.read_cells", defArgs (inClass (top 62) 3), defBody (inClass (top 62) 3), defScope (inClass (top 62) 3), [], []⟩, ["self", "reader", "product", "row"])
def d22 : He.DefD × List Str := (⟨("ClientDraft", some "read_users"), "read_users", "ClientDraft.read_users", defArgs (inClass (top 62) 4), defBody (inClass (top 62) 4), defScope (inClass (top 62) 4), [], []⟩, ["self", "reader", "words", "within", "size"])
def d23 : He.DefD × List Str := (⟨("ClientDraft", some "block"), "block", "ClientDraft.block", defArgs (inClass (top 62) 5), defBody (inClass (top 62) 5), defScope (inClass (top 62) 5), [], []⟩, ["self", "steps", "reader", "found"])
def d24 : He.DefD × List Str := (⟨("ClientDraft", some "other_block"), "other_block", "ClientDraft.other_block", defArgs (inClass (top 62) 6), defBody (inClass (top 62) 6), defScope (inClass (top 62) 6), [], []⟩, ["self", "steps", "reader"])
def d25 : He.DefD × List Str := (⟨("ClientDraft", some "term"), "term", "ClientDraft.term", defArgs (inClass (top 62) 7), defBody (inClass (top 62) 7), defScope (inClass (top 62) 7), [], []⟩, ["self", "text", "found"])
def d26 : He.DefD × List Str := (⟨("ClientDraft", some "statement"), "statement", "ClientDraft.statement", defArgs (inClass (top 62) 8), defBody (inClass (top 62) 8), defScope (inClass (top 62) 8), [], []⟩, ["self", "steps", "reader", "line", "word", "blank", "rest", "cell", "text", "name", "size", "found", "term", "block", "many"])
def d27 : He.DefD × List Str := (⟨("ClientDraft", some "ask"), "ask", "ClientDraft.ask", defArgs (inClass (top 62) 9), defBody (inClass (top 62) 9), defScope (inClass (top 62) 9), [], []⟩, ["self", "steps", "rest", "reader", "door", "blank", "cell", "name", "size"])
def d28 : He.DefD × List Str := (⟨("read_draft", none), "read_draft", "read_draft", defArgs (top 63), defBody (top 63), defScope (top 63), [], []⟩, ["text", "draft"])
def d29 : He.DefD × List Str := (⟨("blocks_of", none), "blocks_of", "blocks_of", defArgs (top 66), defBody (top 66), defScope (top 66), [], []⟩, ["statement"])
def d30 : He.DefD × List Str := (⟨("statements_of", none), "statements_of", "statements_of", defArgs (top 67), defBody (top 67), defScope (top 67), [], []⟩, ["block", "found", "statement", "inner"])
def d31 : He.DefD × List Str := (⟨("Client", some "__init__"), "__init__", "Client.__init__", defArgs (inClass (top 68) 0), defBody (inClass (top 68) 0), defScope (inClass (top 68) 0), [], []⟩, ["self", "book", "draft", "asked", "statement"])
def d32 : He.DefD × List Str := (⟨("Client", some "can_begin"), "can_begin", "Client.can_begin", defArgs (inClass (top 68) 3), defBody (inClass (top 68) 3), defScope (inClass (top 68) 3), [], []⟩, ["self", "day"])
def d33 : He.DefD × List Str := (⟨("Client", some "__eq__"), "__eq__", "Client.__eq__", defArgs (inClass (top 68) 4), defBody (inClass (top 68) 4), defScope (inClass (top 68) 4), [], []⟩, ["self", "other"])
def d34 : He.DefD × List Str := (⟨("Book", some "__init__"), "__init__", "Book.__init__", defArgs (inClass (top 69) 0), defBody (inClass (top 69) 0), defScope (inClass (top 69) 0), [], []⟩, ["self", "text", "draft", "row", "shelves"])
def d35 : He.DefD × List Str := (⟨("Book", some "one"), "one", "Book.one", defArgs (inClass (top 69) 2), defBody (inClass (top 69) 2), defScope (inClass (top 69) 2), [], []⟩, ["self", "found", "row"])
def d36 : He.DefD × List Str := (⟨("Book", some "worth"), "worth", "Book.worth", defArgs (inClass (top 69) 3), defBody (inClass (top 69) 3), defScope (inClass (top 69) 3), [], []⟩, ["self", "calendar", "day"])
def d37 : He.DefD × List Str := (⟨("Book", some "moment"), "moment", "Book.moment", defArgs (inClass (top 69) 4), defBody (inClass (top 69) 4), defScope (inClass (top 69) 4), [], []⟩, ["self", "day"])
def d38 : He.DefD × List Str := (⟨("Book", some "__getitem__"), "__getitem__", "Book.__getitem__", defArgs (inClass (top 69) 5), defBody (inClass (top 69) 5), defScope (inClass (top 69) 5), [], []⟩, ["self", "name"])
def d39 : He.DefD × List Str := (⟨("Book", some "__contains__"), "__contains__", "Book.__contains__", defArgs (inClass (top 69) 6), defBody (inClass (top 69) 6), defScope (inClass (top 69) 6), [], []⟩, ["self", "value"])
def d40 : He.DefD × List Str := (⟨("Book", some "__len__"), "__len__", "Book.__len__", defArgs (inClass (top 69) 7), defBody (inClass (top 69) 7), defScope (inClass (top 69) 7), [], []⟩, ["self"])
def d41 : He.DefD × List Str := (⟨("Book", some "__iter__"), "__iter__", "Book.__iter__", defArgs (inClass (top 69) 8), defBody (inClass (top 69) 8), defScope (inClass (top 69) 8), [], []⟩, ["self"])
def d42 : He.DefD × List Str := (⟨("Book", some "__eq__"), "__eq__", "Book.__eq__", defArgs (inClass (top 69) 9), defBody (inClass (top 69) 9), defScope (inClass (top 69) 9), [], []⟩, ["self", "other"])
def d43 : He.DefD × List Str := (⟨("_law_pot", none), "_law_pot", "_law_pot", defArgs (top 71), defBody (top 71), defScope (top 71), [], []⟩, ["_law_script", "_law_k", "_law_cell", "_law_own"])
def d44 : He.DefD × List Str := (⟨("_law_take", none), "_law_take", "_law_take", defArgs (top 72), defBody (top 72), defScope (top 72), [], []⟩, ["_law_pot_here", "_law_upto", "_law_digit", "_law_prime", "_law_mixed"])
def d45 : He.DefD × List Str := (⟨("_law_of", none), "_law_of", "_law_of", defArgs (top 73), defBody (top 73), defScope (top 73), [], []⟩, ["_law_pot_here", "_law_some"])
def d46 : He.DefD × List Str := (⟨("_law_odd", none), "_law_odd", "_law_odd", defArgs (top 74), defBody (top 74), defScope (top 74), [], []⟩, ["_law_pot_here", "_law_some"])
def d47 : He.DefD × List Str := (⟨("_law_thing", none), "_law_thing", "_law_thing", defArgs (top 75), defBody (top 75), defScope (top 75), [], []⟩, ["_law_pot_here", "_law_book"])
def d48 : He.DefD × List Str := (⟨("_law_errors", none), "_law_errors", "_law_errors", defArgs (top 76), defBody (top 76), defScope (top 76), [], []⟩, ["_law_thing_here", "_law_some"])
def d49 : He.DefD × List Str := (⟨("_law_marks", none), "_law_marks", "_law_marks", defArgs (top 77), defBody (top 77), defScope (top 77), [], []⟩, ["_law_error", "_law_some"])
def d50 : He.DefD × List Str := (⟨("_law_right", none), "_law_right", "_law_right", defArgs (top 78), defBody (top 78), defScope (top 78), [], []⟩, ["_law_thing_here", "_law_at", "_law_error", "_law_spot", "_law_above"])
def d51 : He.DefD × List Str := (⟨("law", none), "law", "law", defArgs (top 79), defBody (top 79), defScope (top 79), [], []⟩, ["_law_script", "_law_k", "_law_pot_here", "_law_lap"])
def fn0 : List (He.DefD × List Str) := [d0, d1, d2, d3, d4, d5, d6, d7, d8, d9, d10, d11, d12, d13, d14, d15]
def fn1 : List (He.DefD × List Str) := [d16, d17, d18, d19, d20, d21, d22, d23, d24, d25, d26, d27, d28, d29, d30, d31]
def fn2 : List (He.DefD × List Str) := [d32, d33, d34, d35, d36, d37, d38, d39, d40, d41, d42, d43, d44, d45, d46, d47]
def fn3 : List (He.DefD × List Str) := [d48, d49, d50, d51]
def fn : List (He.DefD × List Str) := fn0 ++ fn1 ++ fn2 ++ fn3
def cn0 : List (Str) := ["Reader", "Draft", "ClientDraft", "Client", "Book"]
def cn : List (Str) := cn0
def xn0 : List (Str) := ["UnmissedError", "BadBook", "BadName", "BadDay", "NoClient", "LastClient", "Unlike", "Clash", "TooMany", "BadDoor", "BadStand", "BadState", "BadTurn", "BadLife", "BadHistory", "BadReport"]
def xn1 : List (Str) := ["CannotBe", "BadPlan", "BadOffers", "BadTruth", "UnlikeClients", "BadEyes", "NoDay", "NothingToUndo", "NothingToRedo", "NoTrial", "BadText", "BadLines", "BadLine"]
def xn : List (Str) := xn0 ++ xn1
def nm0 : List (Str) := ["value", "lines", "at", "reader", "calendars", "doors", "clients", "rounds", "has_one", "draft", "name", "first", "after", "begins", "lives", "sleeps"]
def nm1 : List (Str) := ["is_one", "cells", "users", "body", "many", "own_book", "asks", "own_text", "own_clients", "settled"]
def nm : List (Str) := nm0 ++ nm1
def fnN0 : List (Str × Nat) := [("is_name", 1), ("figure_of", 2), ("greatest_part", 3), ("least_common", 4), ("parts_of", 5), ("term_of", 6), ("read_draft", 28), ("blocks_of", 29), ("statements_of", 30), ("_law_pot", 43), ("_law_take", 44), ("_law_of", 45), ("_law_odd", 46), ("_law_thing", 47), ("_law_errors", 48), ("_law_marks", 49)]
def fnN1 : List (Str × Nat) := [("_law_right", 50)]
def fnN : List (Str × Nat) := fnN0 ++ fnN1
def clN0 : List (Str × (Nat × Nat)) := [("Reader", (0, 7)), ("Draft", (1, 14)), ("ClientDraft", (2, 18)), ("Client", (3, 31)), ("Book", (4, 34))]
def clN : List (Str × (Nat × Nat)) := clN0
def meN0 : List (Str × (Nat × Nat)) := [("line", (0, 8)), ("words", (0, 9)), ("starts", (0, 10)), ("want", (0, 11)), ("sized", (0, 12)), ("numbered", (0, 13)), ("read_calendars", (1, 15)), ("read_doors", (1, 16)), ("read_clients", (1, 17)), ("read", (2, 19)), ("names", (2, 20)), ("read_cells", (2, 21)), ("read_users", (2, 22)), ("block", (2, 23)), ("other_block", (2, 24)), ("term", (2, 25))]
def meN1 : List (Str × (Nat × Nat)) := [("statement", (2, 26)), ("ask", (2, 27)), ("can_begin", (3, 32)), ("one", (4, 35)), ("worth", (4, 36)), ("moment", (4, 37))]
def meN : List (Str × (Nat × Nat)) := meN0 ++ meN1
def owN0 : List (Nat × Nat) := [(3, 33), (4, 42)]
def owN : List (Nat × Nat) := owN0
def co0 : List (Str × CoV) := [("LETTERS", .str "abcdefghijklmnopqrstuvwxyz"), ("FIGURES", .str "0123456789"), ("MOST_LETTERS", .int 8), ("DEEPEST", .int 4), ("MOST_FIGURE", .int 30), ("COMMA", .str ", "), ("STEP", .int 2), ("MOST_CALENDARS", .int 2), ("MOST_DOORS", .int 2), ("MOST_CLIENTS", .int 3), ("MOST_CELLS", .int 3), ("MOST_USERS", .int 2), ("MOST_ROUNDS", .int 30), ("MOST_PRODUCT", .int 60), ("MOST_STATEMENTS", .int 14), ("FIRST_STEPS", .int 2)]
def co1 : List (Str × CoV) := [("LAST_STEPS", .int 5), ("ALONE", .tup [.str "cry", .str "stop", .str "rest"]), ("NO_NUMBER", .str "always"), ("ASK", .str "ask")]
def co : List (Str × CoV) := co0 ++ co1
def ty0 : List (Str × String) := [("ValueError", "ValueError"), ("str", "str")]
def ty : List (Str × String) := ty0
def bi0 : List (Str) := ["all", "int", "enumerate", "range", "len", "any", "tuple", "TypeError", "isinstance", "max", "sorted", "min", "set", "abs", "str"]
def bi : List (Str) := bi0
def loose0 : List (Str) := ["_wall", "__name__", "UnmissedError", "BadBook", "BadName", "BadDay", "NoClient", "LastClient", "Unlike", "Clash", "TooMany", "BadDoor", "BadStand", "BadState", "BadTurn", "BadLife"]
def loose1 : List (Str) := ["BadHistory", "BadReport", "CannotBe", "BadPlan", "BadOffers", "BadTruth", "UnlikeClients", "BadEyes", "NoDay", "NothingToUndo", "NothingToRedo", "NoTrial", "BadText", "BadLines", "BadLine", "LETTERS"]
def loose2 : List (Str) := ["FIGURES", "MOST_LETTERS", "is_name", "figure_of", "greatest_part", "least_common", "HOW_MANY", "DEEPEST", "MOST_FIGURE", "COMMA", "parts_of", "term_of", "STEP", "MOST_CALENDARS", "MOST_DOORS", "MOST_CLIENTS"]
def loose3 : List (Str) := ["MOST_CELLS", "MOST_USERS", "MOST_ROUNDS", "MOST_PRODUCT", "MOST_STATEMENTS", "FIRST_STEPS", "LAST_STEPS", "ALONE", "NO_NUMBER", "Reader", "Draft", "ClientDraft", "read_draft", "ASK", "blocks_of", "statements_of"]
def loose4 : List (Str) := ["Client", "Book", "_law_pot", "_law_take", "_law_of", "_law_odd", "_law_thing", "_law_errors", "_law_marks", "_law_right"]
def loose : List (Str) := loose0 ++ loose1 ++ loose2 ++ loose3 ++ loose4
def as0 : List Addr := [2, 3, 6, 4, 21, 40, 53, 65, 77, 89, 101, 113, 125, 137, 149, 161]
def as1 : List Addr := [173, 185, 197, 209, 221, 233, 245, 257, 269, 281, 293, 305, 317, 329, 341, 353]
def as2 : List Addr := [365, 377, 384, 389, 396, 403, 404, 411, 417, 418, 477, 513, 591, 602, 607, 614]
def as3 : List Addr := [659, 740, 751, 758, 765, 772, 779, 786, 793, 798, 803, 0, 20, 39, 52, 64]
def as4 : List Addr := [76, 88, 100, 112, 124, 136, 148, 160, 172, 184, 196, 208, 220, 232, 244, 256]
def as5 : List Addr := [268, 280, 292, 304, 316, 328, 340, 352, 364, 376, 383, 388, 395, 402, 410, 416]
def as6 : List Addr := [412, 476, 512, 590, 601, 606, 613, 658, 739, 750, 757, 764, 771, 778, 785, 792]
def as7 : List Addr := [797, 802, 15, 17, 18, 19, 37, 38, 41, 51, 63, 75, 87, 99, 111, 123]
def as8 : List Addr := [135, 147, 159, 171, 183, 195, 207, 219, 231, 243, 255, 267, 279, 291, 303, 315]
def as9 : List Addr := [327, 339, 351, 363, 375, 380, 382, 385, 387, 390, 392, 393, 394, 397, 399, 400]
def as10 : List Addr := [401, 405, 407, 408, 409, 413, 415, 432, 439, 446, 453, 460, 467, 474, 475, 478]
def as11 : List Addr := [479, 495, 500, 505, 510, 511, 514, 515, 531, 538, 543, 550, 557, 564, 571, 578]
def as12 : List Addr := [583, 588, 589, 592, 593, 596, 598, 599, 600, 603, 605, 608, 610, 611, 612, 626]
def as13 : List Addr := [634, 642, 649, 656, 657, 660, 661, 675, 683, 688, 695, 702, 709, 716, 723, 730]
def as14 : List Addr := [737, 738, 741, 742, 745, 747, 748, 749, 752, 754, 755, 756, 759, 761, 762, 763]
def as15 : List Addr := [766, 768, 769, 770, 773, 775, 776, 777, 780, 782, 783, 784, 787, 789, 790, 791]
def as16 : List Addr := [794, 796, 799, 801, 36, 25, 431, 438, 445, 452, 459, 466, 473, 494, 499, 504]
def as17 : List Addr := [509, 530, 537, 542, 549, 556, 563, 570, 577, 582, 587, 625, 633, 641, 648, 655]
def as18 : List Addr := [674, 682, 687, 694, 701, 708, 715, 722, 729, 736, 31, 33, 34, 35, 426, 428]
def as19 : List Addr := [429, 430, 433, 435, 436, 437, 440, 442, 443, 444, 447, 449, 450, 451, 454, 456]
def as20 : List Addr := [457, 458, 461, 463, 464, 465, 468, 470, 471, 472, 489, 491, 492, 493, 496, 498]
def as21 : List Addr := [501, 503, 506, 508, 525, 527, 528, 529, 532, 534, 535, 536, 539, 541, 544, 546]
def as22 : List Addr := [547, 548, 551, 553, 554, 555, 558, 560, 561, 562, 565, 567, 568, 569, 572, 574]
def as23 : List Addr := [575, 576, 579, 581, 584, 586, 622, 624, 632, 640, 643, 645, 646, 647, 650, 652]
def as24 : List Addr := [653, 654, 671, 673, 681, 684, 686, 689, 691, 692, 693, 696, 698, 699, 700, 703]
def as25 : List Addr := [705, 706, 707, 710, 712, 713, 714, 717, 719, 720, 721, 724, 726, 727, 728, 731]
def as26 : List Addr := [733, 734, 735]
def as : List Addr := as0 ++ (as1 ++ (as2 ++ (as3 ++ (as4 ++ (as5 ++ (as6 ++ (as7 ++ (as8 ++ (as9 ++ (as10 ++ (as11 ++ (as12 ++ (as13 ++ (as14 ++ (as15 ++ (as16 ++ (as17 ++ (as18 ++ (as19 ++ (as20 ++ (as21 ++ (as22 ++ (as23 ++ (as24 ++ (as25 ++ (as26))))))))))))))))))))))))))
def pg : Pg := ⟨PySem.Challenge.pw_unmissed_k00_errors, cn, xn, nm, 0, fn, fnN, clN, meN, owN, co, ty, bi, ["NoneType", "bool", "int", "str", "tuple", "list", "dict"], ["ValueError", "str"], fun j => Nat.beq j 51, as⟩
def lawJ : Nat := 51
theorem plain : pg.plainCk = true := by decide +kernel
end K00
set_option Elab.async false
set_option linter.all false
set_option maxRecDepth 100000
set_option maxHeartbeats 0
namespace K00
open PySem PySem.Spec PyProof.Rows L2 Ev
abbrev R : PySem.W.OpenRow := PySem.W.OpenLaw.row PySem.Challenge.rw_unmissed_k00_errors
theorem runF (w : World) : HandSHeadRun.RunEq R (PySem.W.view R.prog [79]) pg.hk pg.ob 20000 loose (w.withFollow "special-get-raises" false) := by
  intro os
  kernel_rfl
theorem runT (w : World) : HandSHeadRun.RunEq R (PySem.W.view R.prog [79]) pg.hk pg.ob 20000 loose (w.withFollow "special-get-raises" true) := by
  intro os
  kernel_rfl
theorem run (w : World) : HandSHeadRun.RunEq R (PySem.W.view R.prog [79]) pg.hk pg.ob 20000 loose w := PySem.W.byRow2 "special-get-raises" runF runT w
end K00
set_option Elab.async false
set_option linter.all false
set_option maxRecDepth 100000
namespace Ev
open PySem L2

/-- values: tuples are trees, what can change stands in the heap -/
inductive W where
  | non | bl (b : Bool) | int (i : Int) | str (x : List Nat) | tup (xs : List W) | rol (xs : List W) | ref (n : Nat) | ty (n : String) | cls (c : Nat) | atm | scr
  deriving Inhabited

/-- objects -/
inductive O where
  | lst (xs : List W)
  | dct (kvs : List (L2.Key × W))
  | ins (c : Nat) (fs : List (Nat × W))
  | xdv (v : W)
  | exo (c d : Nat)
  | pot (q r : Nat)
  deriving Inhabited
abbrev Hv := List O
abbrev En := List (Option W)

mutual
/-- no reference from n on -/
def below (n : Nat) : W → Bool
  | .ref k => Nat.blt k n
  | .tup xs => belows n xs
  | .rol xs => belows n xs
  | _ => true
def belows (n : Nat) : List W → Bool
  | [] => true
  | x :: xs => below n x && belows n xs
end
def O.below (n : Nat) : O → Bool
  | .lst xs => belows n xs
  | .dct kvs => belows n (kvs.map (·.2))
  | .ins _ fs => belows n (fs.map (·.2))
  | .xdv v => Ev.below n v
  | .exo _ d => Nat.blt d n
  | .pot _ _ => true
def enBelow (n : Nat) : En → Bool
  | [] => true
  | none :: r => enBelow n r
  | some w :: r => Ev.below n w && enBelow n r
/-- what was made behind the first n objects is dropped where nothing leads to it -/
def trim (n : Nat) (ok : Bool) (h : Hv) : Hv :=
  if h.length ≤ n then h else if ok && (h.take n).all (O.below n) then h.take n else h

/-- how an evaluation ends -/
inductive Res (α : Type) where
  | ok (a : α) (h : Hv)
  | exc (c : Nat) (v : W) (h : Hv)
  | err
  | ask (n : Nat) (k : Nat → Res α)
/-- what follows, in each branch -/
noncomputable def Res.bind {α β : Type} (r : Res α) (f : α → Hv → Res β) : Res β := Res.rec (motive := fun _ => Res β) (fun a h => f a h) (fun c v h => .exc c v h) .err (fun n _ ih => .ask n ih) r
def M (α : Type) := Hv → Res α
def M.pure {α : Type} (a : α) : M α := fun h => .ok a h
noncomputable def M.bind {α β : Type} (m : M α) (f : α → M β) : M β := fun h => (m h).bind fun a h' => f a h'
noncomputable instance : Monad M where
  pure := M.pure
  bind := M.bind
def M.err {α : Type} : M α := fun _ => .err
def M.of {α : Type} (o : Option α) : M α := fun h => match o with
  | some a => .ok a h
  | none => .err
def M.heap : M Hv := fun h => .ok h h
def M.new (o : O) : M W := fun h => .ok (.ref h.length) (h ++ [o])
def M.put (i : Nat) (o : O) : M Unit := fun h => .ok () (h.set i o)
end Ev
set_option Elab.async false
set_option linter.all false
set_option maxRecDepth 100000
namespace Ev
open PySem L2

/-- the text's names by numbers: fields, classes -/
structure Tb where
  nm : List Str
  cn : List Str
  xn : Nat

/-- a list that is only read -/
def RoL (K : PySem.W.Frag) (H : Hp) (a : Addr) (vs : List V) : Prop := (∃ o, H a = some (.frz o (.lst vs))) ∨
  ∃ (o : Obj) (its : Array Value) (n : Nat), K.lookup a = some o ∧ o.cls = .type "list" ∧ o.dict = none ∧ o.data = .seq its n ∧ its.size ≤ sizeLine ∧ Vals vs its.toList
theorem RoL.sq {K : PySem.W.Frag} {H : Hp} {a : Addr} {vs : List V} (r : RoL K H a vs) : SqL K H a vs := by
  rcases r with ⟨o, r⟩ | r
  · exact .inl (.inr ⟨o, r⟩)
  · exact .inr r

/-- where the classes stand; an opaque value, what it rests on -/
structure CA where
  f : Nat → Addr
  av : V
  H0 : Hp
  ns : List Int
instance : CoeFun CA fun _ => Nat → Addr := ⟨CA.f⟩
section
variable (T : Tb) (K : PySem.W.Frag) (ca : CA) (ρ : List Addr) (H : Hp)
mutual
/-- a value stands for another one; ca: where each class stands -/
inductive RW : W → V → Prop
  | non : RW .non .non
  | bl (b : Bool) : RW (.bl b) (.bl b)
  | int (i : Int) : RW (.int i) (.int i)
  | str (x : List Nat) : RW (.str x) (.str ⟨x.toArray⟩)
  | tup {xs : List W} {a : Addr} {vs : List V} : SqT K H a vs → RWs xs vs → RW (.tup xs) (.ref a)
  | rol {xs : List W} {a : Addr} {vs : List V} : RoL K H a vs → RWs xs vs → RW (.rol xs) (.ref a)
  | ref {n : Nat} {a : Addr} : ρ[n]? = some a → RW (.ref n) (.ref a)
  | ty (n : String) : RW (.ty n) (.ty n)
  | cls (c : Nat) : RW (.cls c) (.ref (ca c))
  | atm : RW .atm ca.av
  | scr {a : Addr} : RoL K H a (ca.ns.map V.int) → RW .scr (.ref a)
inductive RWs : List W → List V → Prop
  | nil : RWs [] []
  | cons {x : W} {xs : List W} {v : V} {vs : List V} : RW x v → RWs xs vs → RWs (x :: xs) (v :: vs)
end
def RO (a : Addr) : O → Prop
  | .lst xs => ∃ vs, H a = some (.lst vs) ∧ RWs K ca ρ H xs vs
  | .dct kvs => ∃ kv' : List (L2.Key × V), H a = some (.dK kv') ∧ kv'.map (·.1) = kvs.map (·.1) ∧ RWs K ca ρ H (kvs.map (·.2)) (kv'.map (·.2))
  | .ins c fs => c < T.cn.length ∧ ∃ (dx : Addr) (fs' : List (Str × V)), H a = some (.ins (ca c) dx fs') ∧ (fs.map fun p => T.nm[p.1]?) = fs'.map (fun p => some p.1) ∧ RWs K ca ρ H (fs.map (·.2)) (fs'.map (·.2))
  | .xdv w => ∃ v, H a = some (exd a [("value", v)]) ∧ RW K ca ρ H w v
  | .exo c d => (T.cn.length ≤ c ∧ c < T.cn.length + T.xn) ∧ ∃ dx, ρ[d]? = some dx ∧ H a = some (L2.exo a (ca c) (some dx))
  | .pot q r => ∃ x y z : Int, H a = some (.lst [.int x, .int y, .int z]) ∧ 0 ≤ x ∧ x < 10 ^ 300 ∧ 0 ≤ y ∧ y < 2 ^ 61 ∧ 0 ≤ z ∧ z + 64 * q + r ≤ 4096
end

theorem exd_frz {e : Addr} {fs : List (Str × V)} {o : Obj} {u : HO} : exd e fs ≠ .frz o u := fun z => by
  have z' : HO.ext _ = HO.frz o u := z
  cases z'
structure HR (T : Tb) (K : PySem.W.Frag) (ca : CA) (ρ : List Addr) (h : Hv) (H : Hp) : Prop where
  len : ρ.length = h.length
  nd : ρ.Nodup
  obj : ∀ (i : Nat) (a : Addr) (o : O), ρ[i]? = some a → h[i]? = some o → RO T K ca ρ H a o
  base : ∀ b o, ca.H0 b = some o → H b = some o ∧ b ∉ ρ
structure EnR (K : PySem.W.Frag) (ca : CA) (ρ : List Addr) (H : Hp) (env : En) (σ : St) : Prop where
  len : env.length = σ.length
  val : ∀ (i : Nat) (w : W), env[i]? = some (some w) → ∃ v, σ[i]? = some (some v) ∧ RW K ca ρ H w v
/-- from one state to a later one -/
structure Go (T : Tb) (K : PySem.W.Frag) (ca : CA) (ρ : List Addr) (H : Hp) (ρ' : List Addr) (h' : Hv) (H' : Hp) : Prop where
  hr : HR T K ca ρ' h' H'
  pre : ∃ r, ρ' = ρ ++ r
  new : ∀ b, b ∈ ρ' → b ∉ ρ → H b = none
  frame : ∀ b o, H b = some o → b ∉ ρ → H' b = some o

section
variable {T : Tb} {K : PySem.W.Frag} {ca : CA} {ρ ρ' ρ'' : List Addr} {H H' H'' : Hp} {h h' h'' : Hv}
mutual
theorem RW.mono (k1 : ∀ (i : Nat) a, ρ[i]? = some a → ρ'[i]? = some a) (k2 : ∀ a vs, SqT K H a vs → SqT K H' a vs) (k3 : ∀ a vs, RoL K H a vs → RoL K H' a vs) : ∀ {w : W} {v : V}, RW K ca ρ H w v → RW K ca ρ' H' w v
  | _, _, .non => .non
  | _, _, .bl b => .bl b
  | _, _, .int i => .int i
  | _, _, .str x => .str x
  | _, _, .tup s r => .tup (k2 _ _ s) (RWs.mono k1 k2 k3 r)
  | _, _, .rol s r => .rol (k3 _ _ s) (RWs.mono k1 k2 k3 r)
  | _, _, .ref e => .ref (k1 _ _ e)
  | _, _, .ty n => .ty n
  | _, _, .cls c => .cls c
  | _, _, .atm => .atm
  | _, _, .scr s => .scr (k3 _ _ s)
theorem RWs.mono (k1 : ∀ (i : Nat) a, ρ[i]? = some a → ρ'[i]? = some a) (k2 : ∀ a vs, SqT K H a vs → SqT K H' a vs) (k3 : ∀ a vs, RoL K H a vs → RoL K H' a vs) : ∀ {ws : List W} {vs : List V}, RWs K ca ρ H ws vs → RWs K ca ρ' H' ws vs
  | _, _, .nil => .nil
  | _, _, .cons r s => .cons (RW.mono k1 k2 k3 r) (RWs.mono k1 k2 k3 s)
end
mutual
/-- references below n alone -/
theorem RW.cut {n : Nat} : ∀ {w : W} {v : V}, RW K ca ρ H w v → below n w = true → RW K ca (ρ.take n) H w v
  | _, _, .non, _ => .non
  | _, _, .bl b, _ => .bl b
  | _, _, .int i, _ => .int i
  | _, _, .str x, _ => .str x
  | _, _, .tup s r, b => .tup s (RWs.cut r (by simpa [below] using b))
  | _, _, .rol s r, b => .rol s (RWs.cut r (by simpa [below] using b))
  | _, _, .ref (n := k) e, b => .ref (by
      have hk : k < n := by simpa [below] using b
      rw [List.getElem?_take_of_lt hk]; exact e)
  | _, _, .ty n, _ => .ty n
  | _, _, .cls c, _ => .cls c
  | _, _, .atm, _ => .atm
  | _, _, .scr s, _ => .scr s
theorem RWs.cut {n : Nat} : ∀ {ws : List W} {vs : List V}, RWs K ca ρ H ws vs → belows n ws = true → RWs K ca (ρ.take n) H ws vs
  | _, _, .nil, _ => .nil
  | _, _, .cons r s, b => .cons (RW.cut r (Bool.and_eq_true_iff.mp (by simpa only [belows] using b)).1) (RWs.cut s (Bool.and_eq_true_iff.mp (by simpa only [belows] using b)).2)
end
theorem RWs.length : ∀ {ws : List W} {vs : List V}, RWs K ca ρ H ws vs → ws.length = vs.length
  | _, _, .nil => rfl
  | _, _, .cons _ s => congrArg Nat.succ (RWs.length s)
theorem RWs.get : ∀ {ws : List W} {vs : List V} {i : Nat} {w : W}, RWs K ca ρ H ws vs → ws[i]? = some w → ∃ v, vs[i]? = some v ∧ RW K ca ρ H w v
  | _, _, _, _, .nil, e => by simp at e
  | _, _, 0, _, .cons r _, e => by simp at e; subst e; exact ⟨_, rfl, r⟩
  | _, _, i + 1, w, .cons _ s, e => by
    obtain ⟨v, h1, h2⟩ := RWs.get (i := i) (w := w) s (by simpa using e)
    exact ⟨v, by simpa using h1, h2⟩
theorem RWs.append : ∀ {ws zs : List W} {vs us : List V}, RWs K ca ρ H ws vs → RWs K ca ρ H zs us → RWs K ca ρ H (ws ++ zs) (vs ++ us)
  | _, _, _, _, .nil, s => s
  | _, _, _, _, .cons r t, s => .cons r (RWs.append t s)
theorem RWs.set {w : W} {v : V} (r : RW K ca ρ H w v) : ∀ {ws : List W} {vs : List V} (i : Nat), RWs K ca ρ H ws vs → RWs K ca ρ H (ws.set i w) (vs.set i v)
  | _, _, _, .nil => .nil
  | _, _, 0, .cons _ t => .cons r t
  | _, _, i + 1, .cons q t => .cons q (RWs.set r i t)
theorem RWs.take : ∀ {ws : List W} {vs : List V} (n : Nat), RWs K ca ρ H ws vs → RWs K ca ρ H (ws.take n) (vs.take n)
  | _, _, 0, _ => .nil
  | _, _, _ + 1, .nil => .nil
  | _, _, n + 1, .cons r t => .cons r (RWs.take n t)
theorem RWs.drop : ∀ {ws : List W} {vs : List V} (n : Nat), RWs K ca ρ H ws vs → RWs K ca ρ H (ws.drop n) (vs.drop n)
  | _, _, 0, r => r
  | _, _, _ + 1, .nil => .nil
  | _, _, n + 1, .cons _ t => RWs.drop n t
theorem RWs.one {w : W} {vs : List V} (r : RWs K ca ρ H [w] vs) : ∃ v, vs = [v] ∧ RW K ca ρ H w v := by
  cases r with
  | cons a b => cases b; exact ⟨_, rfl, a⟩
theorem RWs.two {w z : W} {vs : List V} (r : RWs K ca ρ H [w, z] vs) : ∃ v u, vs = [v, u] ∧ RW K ca ρ H w v ∧ RW K ca ρ H z u := by
  cases r with
  | cons a b => obtain ⟨u, rfl, q⟩ := b.one; exact ⟨_, u, rfl, a, q⟩
theorem RWs.replicate {w : W} {v : V} (r : RW K ca ρ H w v) : ∀ n : Nat, RWs K ca ρ H (List.replicate n w) (List.replicate n v)
  | 0 => .nil
  | n + 1 => .cons r (RWs.replicate r n)

theorem HR.mem (hr : HR T K ca ρ h H) {a : Addr} (e : a ∈ ρ) : ∃ (i : Nat) (o : O), ρ[i]? = some a ∧ h[i]? = some o := by
  obtain ⟨i, hi, e⟩ := List.mem_iff_getElem.mp e
  have hi' : i < h.length := by rw [← hr.len]; exact hi
  exact ⟨i, h[i], by rw [List.getElem?_eq_getElem hi, e], List.getElem?_eq_getElem hi'⟩
theorem HR.zero (hr : HR T K ca ρ h H) {p : Addr} (np : H p = none) : ca.H0 p = none := by
  cases e : ca.H0 p with
  | none => rfl
  | some o => rw [(hr.base p o e).1] at np; cases np
theorem HR.no_tup (hr : HR T K ca ρ h H) {a : Addr} (e : a ∈ ρ) : (∀ xs, H a ≠ some (.tup xs)) ∧ (∀ o u, H a ≠ some (.frz o u)) ∧ H a ≠ none := by
  obtain ⟨i, o, e1, e2⟩ := hr.mem e
  have q := hr.obj i a o e1 e2
  cases o with
  | lst _ => obtain ⟨vs, e, _⟩ := q; rw [e]; exact ⟨fun xs z => (by cases z), fun o u z => (by cases z), fun z => (by cases z)⟩
  | dct _ => obtain ⟨vs, e, _⟩ := q; rw [e]; exact ⟨fun xs z => (by cases z), fun o u z => (by cases z), fun z => (by cases z)⟩
  | ins _ _ => obtain ⟨_, _, _, e, _⟩ := q; rw [e]; exact ⟨fun xs z => (by cases z), fun o u z => (by cases z), fun z => (by cases z)⟩
  | xdv _ => obtain ⟨_, e, _⟩ := q; rw [e]; exact ⟨fun xs z => exd_tup (Option.some.inj z), fun o u z => exd_frz (Option.some.inj z), fun z => (by cases z)⟩
  | pot _ _ => obtain ⟨_, _, _, e, _⟩ := q; rw [e]; exact ⟨fun xs z => (by cases z), fun o u z => (by cases z), fun z => (by cases z)⟩
  | exo _ _ => obtain ⟨_, _, _, e⟩ := q; rw [e]; exact ⟨fun xs z => exo_tup (Option.some.inj z), fun o u z => exo_frz (Option.some.inj z), fun z => (by cases z)⟩
/-- what is kept: all tracked but the objects of ours -/
def Fr (ρ : List Addr) (H H' : Hp) : Prop := ∀ b o, H b = some o → b ∉ ρ → H' b = some o
theorem HR.sqT (hr : HR T K ca ρ h H) (f : Fr ρ H H') {a : Addr} {vs : List V} (s : SqT K H a vs) : SqT K H' a vs := by
  rcases s with (s | ⟨o, s⟩) | s
  · exact .inl (.inl (f _ _ s fun z => (hr.no_tup z).1 _ s))
  · exact .inl (.inr ⟨o, f _ _ s fun z => (hr.no_tup z).2.1 _ _ s⟩)
  · exact .inr s
theorem HR.roL (hr : HR T K ca ρ h H) (f : Fr ρ H H') {a : Addr} {vs : List V} (s : RoL K H a vs) : RoL K H' a vs := by
  rcases s with ⟨o, s⟩ | s
  · exact .inl ⟨o, f _ _ s fun z => (hr.no_tup z).2.1 _ _ s⟩
  · exact .inr s
theorem HR.rw (hr : HR T K ca ρ h H) (f : Fr ρ H H') (k1 : ∀ (i : Nat) a, ρ[i]? = some a → ρ'[i]? = some a) {w : W} {v : V} (r : RW K ca ρ H w v) : RW K ca ρ' H' w v := r.mono k1 (fun _ _ => hr.sqT f) fun _ _ => hr.roL f
theorem HR.rws (hr : HR T K ca ρ h H) (f : Fr ρ H H') (k1 : ∀ (i : Nat) a, ρ[i]? = some a → ρ'[i]? = some a) {w : List W} {v : List V} (r : RWs K ca ρ H w v) : RWs K ca ρ' H' w v := r.mono k1 (fun _ _ => hr.sqT f) fun _ _ => hr.roL f
theorem HR.ro (hr : HR T K ca ρ h H) (f : Fr ρ H H') (k1 : ∀ (i : Nat) a, ρ[i]? = some a → ρ'[i]? = some a) {a : Addr} (e : H' a = H a) {o : O} (r : RO T K ca ρ H a o) : RO T K ca ρ' H' a o := by
  cases o with
  | lst xs => obtain ⟨vs, q, s⟩ := r; exact ⟨vs, e.trans q, hr.rws f k1 s⟩
  | dct kvs => obtain ⟨kv, q, z, s⟩ := r; exact ⟨kv, e.trans q, z, hr.rws f k1 s⟩
  | ins c fs => obtain ⟨hc, dx, fs', q, z, s⟩ := r; exact ⟨hc, dx, fs', e.trans q, z, hr.rws f k1 s⟩
  | xdv w => obtain ⟨v, q, s⟩ := r; exact ⟨v, e.trans q, hr.rw f k1 s⟩
  | exo c d => obtain ⟨hc, dx, z, q⟩ := r; exact ⟨hc, dx, k1 _ _ z, e.trans q⟩
  | pot q1 r1 => obtain ⟨x, y, z, q, s⟩ := r; exact ⟨x, y, z, e.trans q, s⟩
theorem get_app {r : List Addr} (i : Nat) (a : Addr) (e : ρ[i]? = some a) : (ρ ++ r)[i]? = some a := by
  rw [List.getElem?_append_left (List.getElem?_eq_some_iff.mp e).1]; exact e

theorem Go.refl (hr : HR T K ca ρ h H) : Go T K ca ρ H ρ h H := ⟨hr, ⟨[], by simp⟩, fun _ a b => absurd a b, fun _ _ e _ => e⟩
theorem Go.fr (g : Go T K ca ρ H ρ' h' H') : Fr ρ H H' := g.frame
theorem Go.up (g : Go T K ca ρ H ρ' h' H') : ∀ (i : Nat) a, ρ[i]? = some a → ρ'[i]? = some a := by
  obtain ⟨r, rfl⟩ := g.pre
  exact get_app
theorem Go.trans (g : Go T K ca ρ H ρ' h' H') (g' : Go T K ca ρ' H' ρ'' h'' H'') : Go T K ca ρ H ρ'' h'' H'' := by
  obtain ⟨r, e⟩ := g.pre
  obtain ⟨r', e'⟩ := g'.pre
  refine ⟨g'.hr, ⟨r ++ r', by rw [e', e, List.append_assoc]⟩, fun b hb hn => ?_, fun b o hb hn => ?_⟩
  · by_cases q : b ∈ ρ'
    · exact g.new b q hn
    · have z := g'.new b hb q
      cases e0 : H b with
      | none => rfl
      | some o => rw [g.frame b o e0 hn] at z; cases z
  · refine g'.frame b o (g.frame b o hb hn) fun q => ?_
    have z := g.new b q hn
    rw [hb] at z; cases z
theorem Go.rw (hr : HR T K ca ρ h H) (g : Go T K ca ρ H ρ' h' H') {w : W} {v : V} (r : RW K ca ρ H w v) : RW K ca ρ' H' w v := hr.rw g.frame g.up r
theorem Go.rws (hr : HR T K ca ρ h H) (g : Go T K ca ρ H ρ' h' H') {w : List W} {v : List V} (r : RWs K ca ρ H w v) : RWs K ca ρ' H' w v := hr.rws g.frame g.up r
theorem Go.en (hr : HR T K ca ρ h H) (g : Go T K ca ρ H ρ' h' H') {env : En} {σ : St} (r : EnR K ca ρ H env σ) : EnR K ca ρ' H' env σ :=
  ⟨r.len, fun i w e => let ⟨v, e1, q⟩ := r.val i w e; ⟨v, e1, g.rw hr q⟩⟩

/-- a new object -/
theorem HR.push (hr : HR T K ca ρ h H) {p : Addr} {u : HO} {o : O} (np : H p = none) (ho : RO T K ca (ρ ++ [p]) (upd H p u) p o) : Go T K ca ρ H (ρ ++ [p]) (h ++ [o]) (upd H p u) := by
  have f : Fr ρ H (upd H p u) := fun b ob e _ => by rw [upd_ne (ne_of_none e np)]; exact e
  have nm : p ∉ ρ := fun z => (hr.no_tup z).2.2 np
  refine ⟨⟨by simp [hr.len], ?_, fun i a ob e1 e2 => ?_, fun b ob e => ?_⟩, ⟨[p], rfl⟩, fun b hb hn => ?_, f⟩
  · rw [List.nodup_append]
    exact ⟨hr.nd, by simp, fun a ha b hb => by rw [List.mem_singleton.mp hb]; rintro rfl; exact nm ha⟩
  · by_cases hi : i < ρ.length
    · rw [List.getElem?_append_left hi] at e1
      rw [List.getElem?_append_left (by rw [← hr.len]; exact hi)] at e2
      have na : a ≠ p := fun z => nm (z ▸ List.mem_of_getElem? e1)
      exact hr.ro f get_app (upd_ne na) (hr.obj i a ob e1 e2)
    · rw [List.getElem?_append_right (by omega)] at e1
      rw [List.getElem?_append_right (by rw [← hr.len]; omega)] at e2
      have i0 : i - ρ.length = 0 := by
        have := (List.getElem?_eq_some_iff.mp e1).1
        simp at this; omega
      rw [i0] at e1
      rw [← hr.len, i0] at e2
      simp at e1 e2
      subst e1; subst e2
      exact ho
  · obtain ⟨e1, e2⟩ := hr.base b ob e
    refine ⟨f b ob e1 e2, fun z => ?_⟩
    rcases List.mem_append.mp z with z | z
    · exact e2 z
    · rw [List.mem_singleton.mp z, np] at e1; cases e1
  · rcases List.mem_append.mp hb with q | q
    · exact absurd q hn
    · rw [List.mem_singleton.mp q]; exact np
/-- a new object that is not one of ours (a tuple) -/
theorem HR.pushT (hr : HR T K ca ρ h H) {p : Addr} {u : HO} (np : H p = none) : Go T K ca ρ H ρ h (upd H p u) := by
  have f : Fr ρ H (upd H p u) := fun b ob e _ => by rw [upd_ne (ne_of_none e np)]; exact e
  have nm : p ∉ ρ := fun z => (hr.no_tup z).2.2 np
  refine ⟨⟨hr.len, hr.nd, fun i a ob e1 e2 => ?_, fun b ob e => ⟨f b ob (hr.base b ob e).1 (hr.base b ob e).2, (hr.base b ob e).2⟩⟩, ⟨[], by simp⟩, fun b hb hn => absurd hb hn, f⟩
  have na : a ≠ p := fun z => nm (z ▸ List.mem_of_getElem? e1)
  exact hr.ro f (fun _ _ e => e) (upd_ne na) (hr.obj i a ob e1 e2)
/-- an object changed -/
theorem HR.put (hr : HR T K ca ρ h H) {i : Nat} {a : Addr} {u : HO} {o : O} (e : ρ[i]? = some a) (ho : RO T K ca ρ (upd H a u) a o) : Go T K ca ρ H ρ (h.set i o) (upd H a u) := by
  have f : Fr ρ H (upd H a u) := fun b ob eb hb => by
    have nb : b ≠ a := fun z => hb (by rw [z]; exact List.mem_of_getElem? e)
    rw [upd_ne nb]; exact eb
  refine ⟨⟨by rw [List.length_set]; exact hr.len, hr.nd, fun j b ob e1 e2 => ?_, fun b ob e => ⟨f b ob (hr.base b ob e).1 (hr.base b ob e).2, (hr.base b ob e).2⟩⟩, ⟨[], by simp⟩, fun b hb hn => absurd hb hn, f⟩
  by_cases hj : i = j
  · subst hj
    rw [e] at e1; cases e1
    have hi : i < h.length := by rw [← hr.len]; exact (List.getElem?_eq_some_iff.mp e).1
    rw [List.getElem?_set_self hi] at e2; cases e2
    exact ho
  · rw [List.getElem?_set_ne hj] at e2
    have nb : b ≠ a := fun z => by
      subst z
      obtain ⟨h1, q1⟩ := List.getElem?_eq_some_iff.mp e
      obtain ⟨h2, q2⟩ := List.getElem?_eq_some_iff.mp e1
      exact hj ((List.getElem_inj hr.nd).mp (q1.trans q2.symm))
    exact hr.ro f (fun _ _ e => e) (upd_ne nb) (hr.obj j b ob e1 e2)

theorem belows_mem {n : Nat} : ∀ {ws : List W}, belows n ws = true → ∀ w ∈ ws, below n w = true
  | [], _, w, hw => by cases hw
  | x :: xs, b, w, hw => by
    have b' : (below n x && belows n xs) = true := by simpa [belows] using b
    obtain ⟨b1, b2⟩ := Bool.and_eq_true_iff.mp b'
    rcases List.mem_cons.mp hw with rfl | hw
    · exact b1
    · exact belows_mem b2 w hw
theorem HR.cut (hr : HR T K ca ρ h H) {n : Nat} (c : (h.take n).all (O.below n) = true) : HR T K ca (ρ.take n) (h.take n) H := by
  refine ⟨by rw [List.length_take, List.length_take, hr.len], hr.nd.sublist (List.take_sublist _ _), fun i a o e1 e2 => ?_, fun b o e => ⟨(hr.base b o e).1, fun z => (hr.base b o e).2 (List.mem_of_mem_take z)⟩⟩
  have hb : O.below n o = true := List.all_eq_true.mp c o (List.mem_of_getElem? e2)
  have hi : i < n := by
    have := (List.getElem?_eq_some_iff.mp e2).1
    rw [List.length_take] at this; omega
  rw [List.getElem?_take_of_lt hi] at e1 e2
  have q := hr.obj i a o e1 e2
  cases o with
  | lst xs => obtain ⟨vs, q, s⟩ := q; exact ⟨vs, q, s.cut hb⟩
  | dct kvs => obtain ⟨kv, q, z, s⟩ := q; exact ⟨kv, q, z, s.cut hb⟩
  | ins c fs => obtain ⟨hc, dx, fs', q, z, s⟩ := q; exact ⟨hc, dx, fs', q, z, s.cut hb⟩
  | xdv w => obtain ⟨v, q, s⟩ := q; exact ⟨v, q, s.cut hb⟩
  | pot q1 r1 => exact q
  | exo c d =>
    obtain ⟨hc, dx, z, q⟩ := q
    have hd : d < n := by simpa [O.below] using hb
    exact ⟨hc, dx, by rw [List.getElem?_take_of_lt hd]; exact z, q⟩
theorem Go.cut (hr : HR T K ca ρ h H) (g : Go T K ca ρ H ρ' h' H') (c : (h'.take h.length).all (O.below h.length) = true) : Go T K ca ρ H (ρ'.take h.length) (h'.take h.length) H' := by
  obtain ⟨r, e⟩ := g.pre
  have q : ρ'.take h.length = ρ := by rw [e, ← hr.len]; simp
  refine ⟨g.hr.cut c, ⟨[], by rw [q]; simp⟩, fun b hb hn => ?_, g.frame⟩
  rw [q] at hb
  exact absurd hb hn
end
end Ev
set_option Elab.async false
set_option linter.all false
set_option maxRecDepth 100000
namespace Ev
open PySem L2
noncomputable section

/-- operations that raise nothing -/
def P (α : Type) := Hv → Option (α × Hv)
def P.up {α : Type} (p : P α) : M α := fun h => match p h with
  | some (a, h') => .ok a h'
  | none => .err
def P.ok {α : Type} (a : α) : P α := fun h => some (a, h)
def P.fail {α : Type} : P α := fun _ => none
def P.new (o : O) : P W := fun h => some (.ref h.length, h ++ [o])

/-- the list, dict, instance at a place -/
def P.lst {α : Type} (i : Nat) (f : List W → P α) : P α := fun h => match h[i]? with
  | some (.lst xs) => f xs h
  | _ => none
def P.dct {α : Type} (i : Nat) (f : List (L2.Key × W) → P α) : P α := fun h => match h[i]? with
  | some (.dct xs) => f xs h
  | _ => none
def P.ins {α : Type} (i : Nat) (f : Nat → List (Nat × W) → P α) : P α := fun h => match h[i]? with
  | some (.ins c xs) => f c xs h
  | _ => none
def P.obj {α : Type} (i : Nat) (f : O → P α) : P α := fun h => match h[i]? with
  | some o => f o h
  | none => none
def P.iff {α : Type} (c : Bool) (p : P α) : P α := fun h => match c with
  | true => p h
  | false => none
def P.put (i : Nat) (o : O) (w : W) : P W := fun h => some (w, h.set i o)

abbrev EE := En → M W
abbrev ET := En → M Bool
abbrev EL := En → M (List W)
/-- how a statement ends -/
inductive Fl where
  | nx (env : En) | rt (w : W) | bk (env : En) | ct (env : En)
abbrev ES := En → M Fl

/-- the fixed things: the tables, the written part, where classes stand -/
structure Kx where
  T : Tb
  K : PySem.W.Frag
  ca : CA
section
variable (k : Kx)
abbrev Kx.HR (ρ : List Addr) (h : Hv) (H : Hp) : Prop := Ev.HR k.T k.K k.ca ρ h H
abbrev Kx.RW (ρ : List Addr) (H : Hp) (w : W) (v : V) : Prop := Ev.RW k.K k.ca ρ H w v
abbrev Kx.RWs (ρ : List Addr) (H : Hp) (w : List W) (v : List V) : Prop := Ev.RWs k.K k.ca ρ H w v
abbrev Kx.EnR (ρ : List Addr) (H : Hp) (env : En) (σ : St) : Prop := Ev.EnR k.K k.ca ρ H env σ
abbrev Kx.Go (ρ : List Addr) (H : Hp) (ρ' : List Addr) (h' : Hv) (H' : Hp) : Prop := Ev.Go k.T k.K k.ca ρ H ρ' h' H'
/-- the ends of a run from (ρ, H): R of each; an exception is wished for by Wx; a draw: each of its branches -/
def TmR {α : Type} (Wx : WX) (σ : St) (ρ : List Addr) (H : Hp) (R : List Addr → Hv → Hp → α → Prop) : Res α → Prop
  | .ok a h' => ∀ ρ' H', k.Go ρ H ρ' h' H' → R ρ' h' H' a
  | .exc c w h' => ∀ ρ' H' d v, k.Go ρ H ρ' h' H' → H' d = some (.xd [("value", v)]) → k.RW ρ' H' w v → Wx (.ref (k.ca c)) (some d) σ H'
  | .err => False
  | .ask n f => ∀ i, i < n → TmR Wx σ ρ H R (f i)
def Tm {α : Type} (Wx : WX) (σ : St) (ρ : List Addr) (h : Hv) (H : Hp) (m : M α) (R : List Addr → Hv → Hp → α → Prop) : Prop := TmR k Wx σ ρ H R (m h)
/-- .. that raises nothing -/
def Tp {α : Type} (ρ : List Addr) (h : Hv) (H : Hp) (m : P α) (R : List Addr → Hv → Hp → α → Prop) : Prop :=
  match m h with
  | some (a, h') => ∀ ρ' H', k.Go ρ H ρ' h' H' → R ρ' h' H' a
  | none => False
/-- a state that is known -/
structure Sim (ρ : List Addr) (env : En) (h : Hv) (σ : St) (H : Hp) : Prop where
  hr : k.HR ρ h H
  en : k.EnR ρ H env σ
def tE (Wx : WX) (ev : EE) : TE := fun σ H Q => ∃ ρ env h, Sim k ρ env h σ H ∧ Tm k Wx σ ρ h H (ev env) fun ρ' _ H' w => ∀ v, k.RW ρ' H' w v → Q v H'
def tT (Wx : WX) (ev : ET) : TT := fun σ H Q => ∃ ρ env h, Sim k ρ env h σ H ∧ Tm k Wx σ ρ h H (ev env) fun _ _ H' b => Q b H'
def tL (Wx : WX) (ev : EL) : TA := fun σ H Q => ∃ ρ env h, Sim k ρ env h σ H ∧ Tm k Wx σ ρ h H (ev env) fun ρ' _ H' ws => ∀ vs, k.RWs ρ' H' ws vs → Q vs H'
/-- a statement's end -/
def FlOk (ρ : List Addr) (h : Hv) (H : Hp) (D : Ends) : Fl → Prop
  | .nx env => ∀ σ, k.EnR ρ H env σ → D.nx σ H
  | .rt w => ∀ v, k.RW ρ H w v → D.rt v H
  | .bk env => ∀ σ, k.EnR ρ H env σ → D.bk σ H
  | .ct env => ∀ σ, k.EnR ρ H env σ → D.ct σ H
end
section
variable {k : Kx} {Wx : WX} {σ : St} {ρ : List Addr} {h : Hv} {H : Hp} {α β : Type}
theorem Res.assoc {γ : Type} (f : α → Hv → Res β) (g : β → Hv → Res γ) : ∀ r : Res α, (r.bind f).bind g = r.bind fun a h => (f a h).bind g
  | .ok _ _ => rfl
  | .exc _ _ _ => rfl
  | .err => rfl
  | .ask n q => congrArg (Res.ask n) (funext fun i => Res.assoc f g (q i))
theorem M.assoc {γ : Type} (a : M α) (f : α → M β) (g : β → M γ) : ((a >>= f) >>= g) = (a >>= fun x => f x >>= g) := funext fun h => Res.assoc _ _ (a h)
theorem TmR.bind {f : α → M β} {R : List Addr → Hv → Hp → β → Prop} : ∀ {r : Res α}, TmR k Wx σ ρ H R (r.bind fun a h' => f a h') → TmR k Wx σ ρ H (fun ρ1 h1 H1 a => Tm k Wx σ ρ1 h1 H1 (f a) R) r
  | .err, t => t
  | .exc c v h', t => t
  | .ask n g, t => fun i hi => TmR.bind (t i hi)
  | .ok a h1, t => by
    intro ρ1 H1 g1
    have key : ∀ {r : Res β}, TmR k Wx σ ρ H R r → TmR k Wx σ ρ1 H1 R r := fun {r} => by
      induction r with
      | ok b h2 => exact fun t ρ' H' g2 => t ρ' H' (g1.trans g2)
      | exc c v h' => exact fun t ρ' H' d v g2 => t ρ' H' d v (g1.trans g2)
      | err => exact fun t => t
      | ask n q ih => exact fun t i hi => ih i (t i hi)
    exact key t
theorem Tm.bind {m : M α} {f : α → M β} {R : List Addr → Hv → Hp → β → Prop} (t : Tm k Wx σ ρ h H (m >>= f) R) : Tm k Wx σ ρ h H m fun ρ1 h1 H1 a => Tm k Wx σ ρ1 h1 H1 (f a) R := TmR.bind t
theorem TmR.mono {R R' : List Addr → Hv → Hp → α → Prop} (f : ∀ ρ' h' H' a, k.Go ρ H ρ' h' H' → R ρ' h' H' a → R' ρ' h' H' a) : ∀ {r : Res α}, TmR k Wx σ ρ H R r → TmR k Wx σ ρ H R' r
  | .err, t => t
  | .exc c v h', t => t
  | .ask n g, t => fun i hi => TmR.mono f (t i hi)
  | .ok a h1, t => fun ρ' H' g => f ρ' h1 H' a g (t ρ' H' g)
theorem Tm.mono {m : M α} {R R' : List Addr → Hv → Hp → α → Prop} (t : Tm k Wx σ ρ h H m R) (f : ∀ ρ' h' H' a, k.Go ρ H ρ' h' H' → R ρ' h' H' a → R' ρ' h' H' a) : Tm k Wx σ ρ h H m R' := TmR.mono f t
/-- from a later state -/
theorem TmR.from {ρ1 : List Addr} {h1 : Hv} {H1 : Hp} {R : List Addr → Hv → Hp → α → Prop} (g : k.Go ρ H ρ1 h1 H1) : ∀ {r : Res α}, TmR k Wx σ ρ H R r → TmR k Wx σ ρ1 H1 R r
  | .err, t => t
  | .exc c v h', t => fun ρ' H'' d v g2 => t ρ' H'' d v (g.trans g2)
  | .ask n q, t => fun i hi => TmR.from g (t i hi)
  | .ok a h1, t => fun ρ' H'' g2 => t ρ' H'' (g.trans g2)
theorem Tm.from {m : M α} {H' : Hp} {R : List Addr → Hv → Hp → α → Prop} (g : k.Go ρ H ρ h H') (t : Tm k Wx σ ρ h H m R) : Tm k Wx σ ρ h H' m R := TmR.from g t
theorem TmR.mapOk {tr : α → Hv → Hv} {R R' : List Addr → Hv → Hp → α → Prop} (f : ∀ a h1, (∀ ρ' H', k.Go ρ H ρ' (tr a h1) H' → R ρ' (tr a h1) H' a) → ∀ ρ' H', k.Go ρ H ρ' h1 H' → R' ρ' h1 H' a) : ∀ {r : Res α}, TmR k Wx σ ρ H R (r.bind fun a h' => .ok a (tr a h')) → TmR k Wx σ ρ H R' r
  | .err, t => t
  | .exc c v h', t => t
  | .ask n q, t => fun i hi => TmR.mapOk f (t i hi)
  | .ok a h1, t => f a h1 t
theorem TmR.wx {Wx' : WX} {σ' : St} {R : List Addr → Hv → Hp → α → Prop} (f : ∀ cls d H', Wx cls d σ H' → Wx' cls d σ' H') : ∀ {r : Res α}, TmR k Wx σ ρ H R r → TmR k Wx' σ' ρ H R r
  | .err, t => t
  | .exc c v h', t => fun ρ' H' d v g1 e r => f _ _ _ (t ρ' H' d v g1 e r)
  | .ask n q, t => fun i hi => TmR.wx f (t i hi)
  | .ok a h1, t => t
theorem Tm.wx {Wx' : WX} {σ' : St} {m : M α} {R : List Addr → Hv → Hp → α → Prop} (t : Tm k Wx σ ρ h H m R) (f : ∀ cls d H', Wx cls d σ H' → Wx' cls d σ' H') : Tm k Wx' σ' ρ h H m R := TmR.wx f t
theorem Tm.pure {a : α} {R : List Addr → Hv → Hp → α → Prop} (hr : k.HR ρ h H) (t : Tm k Wx σ ρ h H (pure a) R) : R ρ h H a := t ρ H (Go.refl hr)
theorem Tm.up {p : P α} {R : List Addr → Hv → Hp → α → Prop} (t : Tm k Wx σ ρ h H p.up R) : Tp k ρ h H p R := by
  unfold Tm P.up at t
  unfold Tp
  cases q : p h with
  | none => rw [q] at t; exact t
  | some r =>
    obtain ⟨a, h'⟩ := r
    rw [q] at t
    exact t
theorem Tp.ok {a : α} {R : List Addr → Hv → Hp → α → Prop} (hr : k.HR ρ h H) (t : Tp k ρ h H (P.ok a) R) : R ρ h H a := t ρ H (Go.refl hr)
theorem Tp.lst {i : Nat} {f : List W → P α} {R : List Addr → Hv → Hp → α → Prop} (t : Tp k ρ h H (P.lst i f) R) : ∃ xs, h[i]? = some (.lst xs) ∧ Tp k ρ h H (f xs) R := by
  unfold Tp P.lst at t
  cases e : h[i]? with
  | none => rw [e] at t; exact t.elim
  | some o => cases o with
    | lst xs => rw [e] at t; exact ⟨xs, rfl, t⟩
    | xdv _ => rw [e] at t; exact t.elim
    | pot _ _ => rw [e] at t; exact t.elim
    | exo _ _ => rw [e] at t; exact t.elim
    | dct xs => rw [e] at t; exact t.elim
    | ins c xs => rw [e] at t; exact t.elim
theorem Tp.dct {i : Nat} {f : List (L2.Key × W) → P α} {R : List Addr → Hv → Hp → α → Prop} (t : Tp k ρ h H (P.dct i f) R) : ∃ xs, h[i]? = some (.dct xs) ∧ Tp k ρ h H (f xs) R := by
  unfold Tp P.dct at t
  cases e : h[i]? with
  | none => rw [e] at t; exact t.elim
  | some o => cases o with
    | dct xs => rw [e] at t; exact ⟨xs, rfl, t⟩
    | xdv _ => rw [e] at t; exact t.elim
    | pot _ _ => rw [e] at t; exact t.elim
    | exo _ _ => rw [e] at t; exact t.elim
    | lst xs => rw [e] at t; exact t.elim
    | ins c xs => rw [e] at t; exact t.elim
theorem Tp.ins {i : Nat} {f : Nat → List (Nat × W) → P α} {R : List Addr → Hv → Hp → α → Prop} (t : Tp k ρ h H (P.ins i f) R) : ∃ c xs, h[i]? = some (.ins c xs) ∧ Tp k ρ h H (f c xs) R := by
  unfold Tp P.ins at t
  cases e : h[i]? with
  | none => rw [e] at t; exact t.elim
  | some o => cases o with
    | ins c xs => rw [e] at t; exact ⟨c, xs, rfl, t⟩
    | xdv _ => rw [e] at t; exact t.elim
    | pot _ _ => rw [e] at t; exact t.elim
    | exo _ _ => rw [e] at t; exact t.elim
    | lst xs => rw [e] at t; exact t.elim
    | dct xs => rw [e] at t; exact t.elim
theorem Tp.obj {i : Nat} {f : O → P α} {R : List Addr → Hv → Hp → α → Prop} (t : Tp k ρ h H (P.obj i f) R) : ∃ o, h[i]? = some o ∧ Tp k ρ h H (f o) R := by
  unfold Tp P.obj at t
  cases e : h[i]? with
  | none => rw [e] at t; exact t.elim
  | some o => rw [e] at t; exact ⟨o, rfl, t⟩
theorem Tp.iff {c : Bool} {p : P α} {R : List Addr → Hv → Hp → α → Prop} (t : Tp k ρ h H (P.iff c p) R) : c = true ∧ Tp k ρ h H p R := by
  cases c with
  | true => exact ⟨rfl, t⟩
  | false => exact False.elim t
theorem Tp.fail {R : List Addr → Hv → Hp → α → Prop} (t : Tp k ρ h H P.fail R) : False := t
end

/-! ### judgements that are implied -/
section
variable {X : Cx}
theorem _root_.L2.PE.imp {e : Expr} {t t' : TE} (p : PE X e t) (f : ∀ σ H Q, t' σ H Q → t σ H Q) : PE X e t' := ⟨fun pins s σ H Q I h => p.run pins s σ H Q I (f σ H Q h)⟩
theorem _root_.L2.PT.imp {e : Expr} {t t' : TT} (p : PT X e t) (f : ∀ σ H Q, t' σ H Q → t σ H Q) : PT X e t' := ⟨fun pins s σ H Q I h => p.run pins s σ H Q I (f σ H Q h)⟩
theorem _root_.L2.PW.imp {e : Expr} {t t' : TT} (p : PW X e t) (f : ∀ σ H Q, t' σ H Q → t σ H Q) : PW X e t' := ⟨fun wh pins s σ H Q I h => p.run wh pins s σ H Q I (f σ H Q h)⟩
theorem _root_.L2.PA.imp {e : List Expr} {t t' : TA} (p : PA X e t) (f : ∀ σ H Q, t' σ H Q → t σ H Q) : PA X e t' := ⟨fun pos pins s σ H Q I h => p.run pos pins s σ H Q I (f σ H Q h)⟩
theorem _root_.L2.PS.imp {e : Stmt} {t t' : TS} (p : PS X e t) (f : ∀ D σ H, t' D σ H → t D σ H) : PS X e t' := ⟨fun pins s σ H D I h => p.run pins s σ H D I (f D σ H h)⟩
theorem _root_.L2.PSs.imp {e : List Stmt} {t t' : TS} (p : PSs X e t) (f : ∀ D σ H, t' D σ H → t D σ H) : PSs X e t' := ⟨fun pins s σ H D I h => p.run pins s σ H D I (f D σ H h)⟩
end
/-! ### combinators: expressions -/
def evC (w : W) : EE := fun _ => pure w
def evV (i : Nat) : EE := fun env => match env[i]? with
  | some (some w) => pure w
  | _ => M.err
def evB (f : W → W → P W) (a b : EE) : EE := fun env => do let x ← a env; let y ← b env; (f x y).up
def evU (f : W → P W) (a : EE) : EE := fun env => do let x ← a env; (f x).up
section
variable {X : Cx} {k : Kx} {Wx : WX}
theorem c_var {i : Nat} {x : Str} {pos : Pos} (hN : X.N[i]? = some x) (hv : Vis X.env.scope x) (hd : (x == ("__debug__" : Str)) = false) (hcd : (x == ("__classdict__" : Str)) = false) : PE X (.Name x pos) (tE k Wx (evV i)) := by
  refine (pe_var hN hv hd hcd).imp fun σ H Q ⟨ρ, env, h, S, t⟩ => ?_
  unfold evV at t
  split at t
  · rename_i w e
    obtain ⟨v, e1, r⟩ := S.en.val i w e
    exact ⟨v, e1, t.pure S.hr v r⟩
  · exact t.elim
/-- a constant -/
theorem c_const {e : Expr} {v : V} {w : W} (he : PE X e (tC v)) (r : ∀ ρ H, k.RW ρ H w v) : PE X e (tE k Wx (evC w)) :=
  he.imp fun σ H Q ⟨ρ, env, h, S, t⟩ => t.pure S.hr v (r ρ H)
/-- an operation of two values -/
def rP2 (k : Kx) (f : W → W → P W) : R2 := fun x y H Q => ∃ ρ h a b, k.HR ρ h H ∧ k.RW ρ H a x ∧ k.RW ρ H b y ∧ Tp k ρ h H (f a b) fun ρ' _ H' w => ∀ v, k.RW ρ' H' w v → Q v H'
theorem t_bin {f : W → W → P W} {a b : EE} {σ : St} {H : Hp} {Q : VK} (t : tE k Wx (evB f a b) σ H Q) : tOp (rP2 k f) (tE k Wx a) (tE k Wx b) σ H Q := by
  obtain ⟨ρ, env, h, S, t⟩ := t
  refine ⟨ρ, env, h, S, t.bind.mono fun ρ1 h1 H1 wa g1 t1 v1 r1 => ?_⟩
  refine ⟨ρ1, env, h1, ⟨g1.hr, g1.en S.hr S.en⟩, t1.bind.mono fun ρ2 h2 H2 wb g2 t2 v2 r2 => ?_⟩
  exact ⟨ρ2, h2, wa, wb, g2.hr, g2.rw g1.hr r1, r2, t2.up⟩
theorem c_bin {f : W → W → P W} {a b : Expr} {ea eb : EE} {op : Operator} {pos : Pos} (ho : OpR X (binaryOp op) (rP2 k f)) (ha : PE X a (tE k Wx ea)) (hb : PE X b (tE k Wx eb)) : PE X (.BinOp a op b pos) (tE k Wx (evB f ea eb)) :=
  (pe_op ho ha hb).imp fun _ _ _ => t_bin
theorem c_cmp {f : W → W → P W} {a b : Expr} {ea eb : EE} {op : CmpOp} {pos : Pos} (ho : OpR X (compareOp op) (rP2 k f)) (ha : PE X a (tE k Wx ea)) (hb : PE X b (tE k Wx eb)) (hm : behindInMarks op b = false) : PE X (.Compare a [op] [b] pos) (tE k Wx (evB f ea eb)) :=
  (pe_cmpR ho ha hb hm).imp fun _ _ _ => t_bin
end
end
end Ev
set_option Elab.async false
set_option linter.all false
set_option maxRecDepth 100000
namespace Ev
open PySem L2
noncomputable section

/-- a text by its codes -/
abbrev S (x : List Nat) : Str := ⟨x.toArray⟩
theorem S_app (x y : List Nat) : S x ++ S y = S (x ++ y) := by
  show (⟨x.toArray ++ y.toArray⟩ : Str) = _
  simp
theorem S_len (x : List Nat) : (S x).length = x.length := by simp [S, Str.length]
theorem S_inj {x y : List Nat} : S x = S y ↔ x = y := ⟨fun h => by have := congrArg (fun z : Str => z.cps.toList) h; simpa [S] using this, fun h => by rw [h]⟩
theorem S_tl (x : List Nat) : (S x).cps.toList = x := by simp [S]

section
variable {X : Cx} {k : Kx}
theorem op_of {f : W → W → P W} {g : Value → Value → Sem Value}
    (hs : ∀ (ρ : List Addr) (h : Hv) (H : Hp) (a b : W) (x y : V) (Q : VK), k.HR ρ h H → k.RW ρ H a x → k.RW ρ H b y → (Tp k ρ h H (f a b) fun ρ' _ H' w => ∀ v, k.RW ρ' H' w v → Q v H') → ∃ r, OpR X g r ∧ r x y H Q) : OpR X g (rP2 k f) := by
  intro pins s σ H x y v u Q I rx ry ⟨ρ, h, a, b, hr, r1, r2, t⟩
  obtain ⟨r, ho, q⟩ := hs ρ h H a b x y Q hr r1 r2 t
  exact ho pins s σ H x y v u Q I rx ry q
end

/-! ### arithmetic -/
def addW : W → W → P W
  | .int i, .int j => P.ok (.int (i + j))
  | .str x, .str y => if x.length + y.length ≤ sizeLine then P.ok (.str (x ++ y)) else P.fail
  | .ref i, .ref j => P.lst i fun xs => P.lst j fun ys => P.iff (decide (xs.length + ys.length ≤ sizeLine)) (P.new (.lst (xs ++ ys)))
  | _, _ => P.fail
def subW : W → W → P W
  | .int i, .int j => P.ok (.int (i - j))
  | _, _ => P.fail
def small64 (i : Int) : Bool := decide (-(2 ^ 64) < i) && decide (i < 2 ^ 64)
def mulW : W → W → P W
  | .int i, .int j => if small64 i || small64 j then P.ok (.int (i * j)) else P.fail
  | _, _ => P.fail
def modW : W → W → P W
  | .int i, .int j => if 0 < j then P.ok (.int (i % j)) else P.fail
  | _, _ => P.fail
def fdivW : W → W → P W
  | .int i, .int j => if 0 < j ∧ j < 1073741824 then P.ok (.int (i / j)) else P.fail
  | _, _ => P.fail
def powW : W → W → P W
  | .int i, .int j => if 0 ≤ j ∧ j ≤ 1000000 ∧ i.natAbs < 2 ^ 64 then P.ok (.int (i ^ j.toNat)) else if 0 ≤ j ∧ (Builtin.Int.intBits i : Int) * j ≤ 2 ^ 27 then P.ok (.int (i ^ j.toNat)) else P.fail
  | _, _ => P.fail
section
variable {X : Cx} {k : Kx}
theorem RW.list {ρ : List Addr} {h : Hv} {H : Hp} {i : Nat} {xs : List W} {x : V} (hr : k.HR ρ h H) (r : k.RW ρ H (.ref i) x) (e : h[i]? = some (.lst xs)) : ∃ a vs, x = .ref a ∧ ρ[i]? = some a ∧ H a = some (.lst vs) ∧ k.RWs ρ H xs vs := by
  cases r with
  | ref ea =>
    obtain ⟨vs, q, s⟩ := hr.obj i _ _ ea e
    exact ⟨_, vs, rfl, ea, q, s⟩
/-- a new list -/
theorem Tp.newL {ρ : List Addr} {h : Hv} {H : Hp} {xs : List W} {vs : List V} {R : List Addr → Hv → Hp → W → Prop} (hr : k.HR ρ h H) (t : Tp k ρ h H (P.new (.lst xs)) R) (s : k.RWs ρ H xs vs) {p : Addr} (np : H p = none) :
    R (ρ ++ [p]) (h ++ [.lst xs]) (upd H p (.lst vs)) (.ref h.length) := by
  have f : Fr ρ H (upd H p (.lst vs)) := fun b ob e _ => by rw [upd_ne (ne_of_none e np)]; exact e
  exact t _ _ (hr.push np ⟨vs, upd_same, hr.rws f get_app s⟩)
theorem RW.last {ρ : List Addr} {h : Hv} {H H' : Hp} {p : Addr} (hr : k.HR ρ h H) : k.RW (ρ ++ [p]) H' (.ref h.length) (.ref p) := .ref (by rw [← hr.len]; simp)
theorem o_add : OpR X (binaryOp .Add) (rP2 k addW) := op_of fun ρ h H a b x y Q hr r1 r2 t => by
  unfold addW at t
  split at t
  · cases r1; cases r2
    exact ⟨_, op_add, _, _, rfl, rfl, t.ok hr _ (.int _)⟩
  · cases r1; cases r2
    split at t
    · rename_i hl
      refine ⟨_, op_add_str, _, _, rfl, rfl, by rw [S_len, S_len]; exact hl, ?_⟩
      rw [S_app]
      exact t.ok hr _ (.str _)
    · exact t.fail.elim
  · rename_i i j
    obtain ⟨xs, e1, t⟩ := t.lst
    obtain ⟨ys, e2, t⟩ := t.lst
    obtain ⟨c, t⟩ := t.iff
    obtain ⟨a1, v1, rfl, q1, w1, s1⟩ := RW.list hr r1 e1
    obtain ⟨a2, v2, rfl, q2, w2, s2⟩ := RW.list hr r2 e2
    refine ⟨_, op_cat, a1, a2, v1, v2, rfl, rfl, w1, w2, by rw [← s1.length, ← s2.length]; exact of_decide_eq_true c, fun p np => ?_⟩
    exact Tp.newL hr t (s1.append s2) np _ (RW.last hr)
  · exact t.fail.elim
theorem o_sub : OpR X (binaryOp .Sub) (rP2 k subW) := op_of fun ρ h H a b x y Q hr r1 r2 t => by
  unfold subW at t
  split at t
  · cases r1; cases r2
    exact ⟨_, op_sub, _, _, rfl, rfl, t.ok hr _ (.int _)⟩
  · exact t.fail.elim
theorem o_mul : OpR X (binaryOp .Mult) (rP2 k mulW) := op_of fun ρ h H a b x y Q hr r1 r2 t => by
  unfold mulW at t
  split at t
  · rename_i i j
    cases r1; cases r2
    split at t
    · rename_i c
      refine ⟨_, op_mul, _, _, rfl, rfl, ?_, t.ok hr _ (.int _)⟩
      simp only [small64, Bool.or_eq_true, Bool.and_eq_true, decide_eq_true_eq] at c
      exact c
    · exact t.fail.elim
  · exact t.fail.elim
theorem o_mod : OpR X (binaryOp .Mod) (rP2 k modW) := op_of fun ρ h H a b x y Q hr r1 r2 t => by
  unfold modW at t
  split at t
  · cases r1; cases r2
    split at t
    · rename_i c
      exact ⟨_, op_mod, _, _, rfl, rfl, c, t.ok hr _ (.int _)⟩
    · exact t.fail.elim
  · exact t.fail.elim
theorem o_fdiv : OpR X (binaryOp .FloorDiv) (rP2 k fdivW) := op_of fun ρ h H a b x y Q hr r1 r2 t => by
  unfold fdivW at t
  split at t
  · cases r1; cases r2
    split at t
    · rename_i c
      exact ⟨_, op_fdiv, _, _, rfl, rfl, c, t.ok hr _ (.int _)⟩
    · exact t.fail.elim
  · exact t.fail.elim
theorem op_powW : OpR X (binaryOp .Pow) (rI (fun i j => 0 ≤ j ∧ (Builtin.Int.intBits i : Int) * j ≤ 2 ^ 27) fun i j => .int (i ^ j.toNat)) := opI fun _ _ _ _ _ _ _ hc q => PyProof.Rows.pow_int hc.1 hc.2 q
theorem o_pow : OpR X (binaryOp .Pow) (rP2 k powW) := op_of fun ρ h H a b x y Q hr r1 r2 t => by
  unfold powW at t
  split at t
  · cases r1; cases r2
    split at t
    · rename_i c
      exact ⟨_, op_pow, _, _, rfl, rfl, c, t.ok hr _ (.int _)⟩
    · split at t
      · rename_i c
        exact ⟨_, op_powW, _, _, rfl, rfl, c, t.ok hr _ (.int _)⟩
      · exact t.fail.elim
  · exact t.fail.elim
end

/-! ### equality, order -/
/-- a value as data, through the heap -/
def toD (h : Hv) : Nat → W → Option PyData
  | 0, _ => none
  | _ + 1, .non => some .none
  | _ + 1, .bl b => some (.bool b)
  | _ + 1, .int i => some (.int i)
  | _ + 1, .str x => some (.str (S x))
  | n + 1, .tup xs => (xs.mapM (toD h n)).map .tuple
  | n + 1, .rol xs => (xs.mapM (toD h n)).map .list
  | n + 1, .ref i => match h[i]? with
    | some (.lst xs) => (xs.mapM (toD h n)).map .list
    | _ => none
  | _ + 1, _ => none
def eqS : W → W → Option Bool
  | .non, .non => some true
  | .non, .int _ => some false | .int _, .non => some false | .non, .bl _ => some false | .bl _, .non => some false | .non, .str _ => some false | .str _, .non => some false
  | .int i, .int j => some (decide (i = j))
  | .bl i, .bl j => some (decide (i = j))
  | .str i, .str j => some (decide (i = j))
  | .int _, .str _ => some false | .str _, .int _ => some false | .bl _, .str _ => some false | .str _, .bl _ => some false
  | _, _ => none
/-- whether two values are equal -/
def eqO (a b : W) (h : Hv) : Option Bool := match eqS a b with
  | some r => some r
  | none => match toD h 9 a, toD h 9 b with
    | some d, some e => if SeqAt.shaped d && SeqAt.shaped e then some (PyData.eqv d e) else none
    | _, _ => none
def eqW (a b : W) : P W := fun h => (eqO a b h).map fun r => (.bl r, h)
def neW (a b : W) : P W := fun h => (eqO a b h).map fun r => (.bl (!r), h)
section
variable {X : Cx} {k : Kx}
theorem dpAll_of {H : Hp} : ∀ {vs : List V} {ds : List PyData}, (∀ (i : Nat) v d, vs[i]? = some v → ds[i]? = some d → Dp k.K H v d) → vs.length = ds.length → DpAll k.K H vs ds
  | [], [], _, _ => .nil
  | [], _ :: _, _, e => by simp at e
  | _ :: _, [], _, e => by simp at e
  | v :: vs, d :: ds, f, e => .cons (f 0 v d rfl rfl) (dpAll_of (fun i v' d' h1 h2 => f (i + 1) v' d' (by simpa using h1) (by simpa using h2)) (by simpa using e))
theorem mapM_get {α β : Type} {f : α → Option β} : ∀ {xs : List α} {ys : List β}, xs.mapM f = some ys → xs.length = ys.length ∧ ∀ (i : Nat) y, ys[i]? = some y → ∃ x, xs[i]? = some x ∧ f x = some y
  | [], ys, e => by
    simp at e; subst e
    exact ⟨rfl, fun i y h => by simp at h⟩
  | x :: xs, ys, e => by
    rw [List.mapM_cons] at e
    simp only [Option.bind_eq_bind, Option.pure_def, Option.bind_eq_some_iff, Option.some.injEq] at e
    obtain ⟨y, h1, zs, h2, rfl⟩ := e
    obtain ⟨l, g⟩ := mapM_get h2
    refine ⟨by simp [l], fun i z hz => ?_⟩
    cases i with
    | zero => simp at hz; subst hz; exact ⟨x, rfl, h1⟩
    | succ i => obtain ⟨w, q1, q2⟩ := g i z (by simpa using hz); exact ⟨w, by simpa using q1, q2⟩
theorem toD_dp {ρ : List Addr} {h : Hv} {H : Hp} (hr : k.HR ρ h H) : ∀ {n : Nat} {w : W} {v : V} {d : PyData}, k.RW ρ H w v → toD h n w = some d → Dp k.K H v d
  | 0, _, _, _, _, e => by simp [toD] at e
  | n + 1, w, v, d, r, e => by
    have all : ∀ {xs : List W} {vs : List V} {ds : List PyData}, k.RWs ρ H xs vs → xs.mapM (toD h n) = some ds → DpAll k.K H vs ds := fun {xs vs ds} s e => by
      obtain ⟨l, g⟩ := mapM_get e
      refine dpAll_of (fun i v' d' h1 h2 => ?_) (by rw [← s.length]; exact l)
      obtain ⟨w', q1, q2⟩ := g i d' h2
      obtain ⟨v'', q3, q4⟩ := s.get q1
      rw [h1] at q3; cases q3
      exact toD_dp hr q4 q2
    cases w with
    | non => cases r; simp [toD] at e; subst e; exact .non
    | bl b => cases r; simp [toD] at e; subst e; exact .bl b
    | int b => cases r; simp [toD] at e; subst e; exact .int b
    | str b => cases r; simp [toD] at e; subst e; exact .str _
    | tup xs =>
      cases r with
      | tup s q =>
        simp only [toD, Option.map_eq_some_iff] at e
        obtain ⟨ds, e, rfl⟩ := e
        exact .tup s (all q e)
    | rol xs =>
      cases r with
      | rol s q =>
        simp only [toD, Option.map_eq_some_iff] at e
        obtain ⟨ds, e, rfl⟩ := e
        exact .lst s.sq (all q e)
    | ref i =>
      simp only [toD] at e
      split at e
      · rename_i xs e1
        obtain ⟨a, vs, rfl, q1, q2, q3⟩ := RW.list hr r e1
        simp only [Option.map_eq_some_iff] at e
        obtain ⟨ds, e, rfl⟩ := e
        exact .lst (SqL.of q2) (all q3 e)
      · cases e
    | ty n => simp [toD] at e
    | cls n => simp [toD] at e
    | atm => simp [toD] at e
    | scr => simp [toD] at e
theorem eqS_ok {ρ : List Addr} {H : Hp} {a b : W} {x y : V} {r : Bool} (r1 : k.RW ρ H a x) (r2 : k.RW ρ H b y) (e : eqS a b = some r) : scal x y = true ∧ decide (x = y) = r := by
  unfold eqS at e
  split at e <;> first | (cases e; done) | skip
  all_goals (cases r1; cases r2; cases e)
  all_goals first
    | exact ⟨rfl, by simp [S_inj]⟩
    | exact ⟨rfl, rfl⟩
    | (refine ⟨rfl, ?_⟩; simp)
theorem o_eq (hu : X.A.units + 64 < cLine) (hK : X.K = k.K) : OpR X (compareOp .Eq) (rP2 k eqW) := op_of fun ρ h H a b x y Q hr r1 r2 t => by
  unfold Tp eqW eqO at t
  dsimp only at t
  cases e : eqS a b with
  | some r =>
    obtain ⟨s1, s2⟩ := eqS_ok r1 r2 e
    rw [e] at t
    refine ⟨_, op_eq, s1, ?_⟩
    rw [s2]
    exact t _ _ (Go.refl hr) _ (.bl _)
  | none =>
    rw [e] at t
    dsimp only at t
    cases e1 : toD h 9 a with
    | none => rw [e1] at t; exact t.elim
    | some d =>
      cases e2 : toD h 9 b with
      | none => rw [e1, e2] at t; exact t.elim
      | some d' =>
        rw [e1, e2] at t
        dsimp only at t
        by_cases c : (SeqAt.shaped d && SeqAt.shaped d') = true
        · rw [if_pos c] at t
          obtain ⟨c1, c2⟩ := Bool.and_eq_true_iff.mp c
          exact ⟨_, op_eqD hu, d, d', by rw [hK]; exact toD_dp hr r1 e1, by rw [hK]; exact toD_dp hr r2 e2, c1, c2, t _ _ (Go.refl hr) _ (.bl _)⟩
        · rw [if_neg c] at t; exact t.elim
theorem o_ne (hu : X.A.units + 64 < cLine) (hK : X.K = k.K) : OpR X (compareOp .NotEq) (rP2 k neW) := op_of fun ρ h H a b x y Q hr r1 r2 t => by
  unfold Tp neW eqO at t
  dsimp only at t
  cases e : eqS a b with
  | some r =>
    obtain ⟨s1, s2⟩ := eqS_ok r1 r2 e
    rw [e] at t
    refine ⟨_, op_ne, s1, ?_⟩
    rw [s2]
    exact t _ _ (Go.refl hr) _ (.bl _)
  | none =>
    rw [e] at t
    dsimp only at t
    cases e1 : toD h 9 a with
    | none => rw [e1] at t; exact t.elim
    | some d =>
      cases e2 : toD h 9 b with
      | none => rw [e1, e2] at t; exact t.elim
      | some d' =>
        rw [e1, e2] at t
        dsimp only at t
        by_cases c : (SeqAt.shaped d && SeqAt.shaped d') = true
        · rw [if_pos c] at t
          obtain ⟨c1, c2⟩ := Bool.and_eq_true_iff.mp c
          exact ⟨_, op_neD hu, d, d', by rw [hK]; exact toD_dp hr r1 e1, by rw [hK]; exact toD_dp hr r2 e2, c1, c2, t _ _ (Go.refl hr) _ (.bl _)⟩
        · rw [if_neg c] at t; exact t.elim
end
end
end Ev
set_option Elab.async false
set_option linter.all false
set_option maxRecDepth 100000
namespace Ev
open PySem L2
noncomputable section

/-! ### order -/
def ltW : W → W → P W
  | .int i, .int j => P.ok (.bl (decide (i < j)))
  | _, _ => P.fail
def leW : W → W → P W
  | .int i, .int j => P.ok (.bl (decide (i ≤ j)))
  | _, _ => P.fail
def gtW : W → W → P W
  | .int i, .int j => P.ok (.bl (decide (j < i)))
  | _, _ => P.fail
def geW : W → W → P W
  | .int i, .int j => P.ok (.bl (decide (j ≤ i)))
  | _, _ => P.fail
def isNon : W → Bool
  | .non => true
  | _ => false
/-- is None -/
def isAtm : W → Bool
  | .atm => true
  | _ => false
def isW : W → W → P W
  | a, .non => P.iff (!isAtm a) (P.ok (.bl (isNon a)))
  | _, _ => P.fail
def isNotW : W → W → P W
  | a, .non => P.iff (!isAtm a) (P.ok (.bl (!isNon a)))
  | _, _ => P.fail
section
variable {X : Cx} {k : Kx}
theorem o_lt : OpR X (compareOp .Lt) (rP2 k ltW) := op_of fun ρ h H a b x y Q hr r1 r2 t => by
  unfold ltW at t
  split at t
  · cases r1; cases r2
    exact ⟨_, op_lt, _, _, rfl, rfl, t.ok hr _ (.bl _)⟩
  · exact t.fail.elim
theorem o_le : OpR X (compareOp .LtE) (rP2 k leW) := op_of fun ρ h H a b x y Q hr r1 r2 t => by
  unfold leW at t
  split at t
  · cases r1; cases r2
    exact ⟨_, op_le, _, _, rfl, rfl, t.ok hr _ (.bl _)⟩
  · exact t.fail.elim
theorem o_gt : OpR X (compareOp .Gt) (rP2 k gtW) := op_of fun ρ h H a b x y Q hr r1 r2 t => by
  unfold gtW at t
  split at t
  · cases r1; cases r2
    exact ⟨_, op_gt, _, _, rfl, rfl, t.ok hr _ (.bl _)⟩
  · exact t.fail.elim
theorem o_ge : OpR X (compareOp .GtE) (rP2 k geW) := op_of fun ρ h H a b x y Q hr r1 r2 t => by
  unfold geW at t
  split at t
  · cases r1; cases r2
    exact ⟨_, op_ge, _, _, rfl, rfl, t.ok hr _ (.bl _)⟩
  · exact t.fail.elim
theorem isNon_ok {ρ : List Addr} {H : Hp} {a : W} {x : V} (r : k.RW ρ H a x) (ha : (!isAtm a) = true) : decide (x = .non) = isNon a := by
  cases r <;> first | (cases ha; done) | simp [isNon]
theorem o_is : OpR X (compareOp .Is) (rP2 k isW) := op_of fun ρ h H a b x y Q hr r1 r2 t => by
  unfold isW at t
  split at t
  · obtain ⟨ha, t⟩ := t.iff
    cases r2
    refine ⟨_, op_isN, rfl, ?_⟩
    rw [isNon_ok r1 ha]
    exact t.ok hr _ (.bl _)
  · exact t.fail.elim
theorem o_isNot : OpR X (compareOp .IsNot) (rP2 k isNotW) := op_of fun ρ h H a b x y Q hr r1 r2 t => by
  unfold isNotW at t
  split at t
  · obtain ⟨ha, t⟩ := t.iff
    cases r2
    refine ⟨_, op_notN, rfl, ?_⟩
    rw [isNon_ok r1 ha]
    exact t.ok hr _ (.bl _)
  · exact t.fail.elim
end

/-- a dict's item -/
def dgetW (kvs : List (L2.Key × W)) (z : L2.Key) : Option W := (kvs.find? fun p => decide (p.1 = z)).map (·.2)
def dputW (kvs : List (L2.Key × W)) (z : L2.Key) (w : W) : List (L2.Key × W) :=
  if (kvs.any fun kv => decide (kv.1 = z)) = true then kvs.map (fun kv => if kv.1 = z then (kv.1, w) else kv) else kvs ++ [(z, w)]
def keyW : W → Option L2.Key
  | .int i => some (.inl i)
  | .str x => some (.inr (S x))
  | _ => none
/-! ### in -/
def flatW : W → Bool
  | .non => true | .bl _ => true | .int _ => true | .str _ => true
  | _ => false
/-- == of flat values -/
def eqF : W → W → Bool
  | .non, .non => true
  | .bl a, .bl b => a == b
  | .bl a, .int b => (if a then 1 else 0) == b
  | .int a, .bl b => a == (if b then 1 else 0)
  | .int a, .int b => a == b
  | .str a, .str b => a == b
  | _, _ => false
def inS (x : W) (xs : List W) : Bool := xs.any fun y => eqF y x
/-- x in y, as a bool -/
def inO : W → W → Hv → Option Bool
  | x, .tup xs, _ => if flatW x && xs.all flatW then some (inS x xs) else none
  | x, .rol xs, _ => if flatW x && xs.all flatW then some (inS x xs) else none
  | .str [c], .str z, _ => some (decide (c ∈ z))
  | x, .ref i, h => match h[i]? with
    | some (.lst xs) => if flatW x && xs.all flatW then some (inS x xs) else none
    | some (.dct kvs) => (keyW x).map fun z => (dgetW kvs z).isSome
    | _ => none
  | _, _, _ => none
def inW (a b : W) : P W := fun h => (inO a b h).map fun r => (.bl r, h)
def notInW (a b : W) : P W := fun h => (inO a b h).map fun r => (.bl (!r), h)
section
variable {X : Cx} {k : Kx}
theorem flatW_ok {ρ : List Addr} {H : Hp} {a : W} {x : V} (r : k.RW ρ H a x) (f : flatW a = true) : flatV x = true := by
  cases r <;> first | rfl | cases f
theorem flatWs_ok {ρ : List Addr} {H : Hp} : ∀ {a : List W} {x : List V}, k.RWs ρ H a x → a.all flatW = true → x.all flatV = true
  | _, _, .nil, _ => rfl
  | _, _, .cons r s, f => by
    rw [List.all_cons, Bool.and_eq_true] at f ⊢
    exact ⟨flatW_ok r f.1, flatWs_ok s f.2⟩
theorem eqF_ok {ρ : List Addr} {H : Hp} {a b : W} {x y : V} (r1 : k.RW ρ H a x) (r2 : k.RW ρ H b y) (f1 : flatW a = true) (f2 : flatW b = true) : eqV x y = eqF a b := by
  cases r1 <;> cases f1 <;> cases r2 <;> cases f2 <;> first | rfl | skip
  show (S _ == S _) = _
  rename_i p q
  by_cases e : p = q
  · subst e; simp [eqF]
  · have e' : ¬ S p = S q := fun z => e (S_inj.mp z)
    have h1 : (S p == S q) = false := by simpa using e'
    have h2 : (p == q) = false := by simpa using e
    rw [h1]
    simp only [eqF]
    rw [h2]
theorem inS_ok {ρ : List Addr} {H : Hp} {a : W} {x : V} (r1 : k.RW ρ H a x) (f1 : flatW a = true) : ∀ {ws : List W} {vs : List V}, k.RWs ρ H ws vs → ws.all flatW = true → inV x vs = inS a ws
  | _, _, .nil, _ => rfl
  | _, _, .cons r s, f => by
    rw [List.all_cons, Bool.and_eq_true] at f
    have ih := inS_ok r1 f1 s f.2
    show (eqV _ x || inV x _) = (eqF _ a || inS a _)
    rw [ih, eqF_ok r r1 f.1 f1]
theorem in_seq (neg : Bool) {ρ : List Addr} {h : Hv} {H : Hp} {a : W} {x : V} {p : Addr} {ws : List W} {vs : List V} {Q : VK} (r1 : k.RW ρ H a x) (s : k.RWs ρ H ws vs) (hK : X.K = k.K) (hq : SqL X.K H p vs ∨ SqT X.K H p vs)
    (c : (flatW a && ws.all flatW) = true) (q : Q (.bl (if neg then !inS a ws else inS a ws)) H) : rIn X.K neg x (.ref p) H Q := by
  obtain ⟨c1, c2⟩ := Bool.and_eq_true_iff.mp c
  refine ⟨p, vs, rfl, hq, flatW_ok r1 c1, flatWs_ok s c2, ?_⟩
  rw [inS_ok r1 c1 s c2]
  exact q
end
end
end Ev
set_option Elab.async false
set_option linter.all false
set_option maxRecDepth 100000
namespace Ev
open PySem L2
noncomputable section

section
variable {X : Cx} {k : Kx}
theorem keyW_ok {ρ : List Addr} {H : Hp} {a : W} {x : V} {z : L2.Key} (r : k.RW ρ H a x) (e : keyW a = some z) : x = kV z := by
  cases r <;> simp [keyW] at e <;> subst e <;> rfl
theorem dget_ok {ρ : List Addr} {H : Hp} (z : L2.Key) : ∀ {kvs : List (L2.Key × W)} {kv' : List (L2.Key × V)}, kv'.map (·.1) = kvs.map (·.1) → k.RWs ρ H (kvs.map (·.2)) (kv'.map (·.2)) →
    (dgetW kvs z = none ∧ valV kv' z = none) ∨ ∃ w v, dgetW kvs z = some w ∧ valV kv' z = some v ∧ k.RW ρ H w v
  | [], [], _, _ => .inl ⟨rfl, rfl⟩
  | [], _ :: _, e, _ => by simp at e
  | _ :: _, [], e, _ => by simp at e
  | (z1, w1) :: kvs, (z2, v2) :: kv', e, s => by
    simp only [List.map_cons, List.cons.injEq] at e
    obtain ⟨e1, e2⟩ := e
    subst e1
    cases s with
    | cons r s =>
      by_cases hz : z2 = z
      · subst hz
        exact .inr ⟨w1, v2, by simp [dgetW], by simp [valV], r⟩
      · have q := dget_ok z e2 s
        have h1 : dgetW ((z2, w1) :: kvs) z = dgetW kvs z := by simp [dgetW, List.find?_cons, hz]
        have h2 : valV ((z2, v2) :: kv') z = valV kv' z := by simp [valV, List.find?_cons, hz]
        rw [h1, h2]
        exact q
theorem RW.dict {ρ : List Addr} {h : Hv} {H : Hp} {i : Nat} {xs : List (L2.Key × W)} {x : V} (hr : k.HR ρ h H) (r : k.RW ρ H (.ref i) x) (e : h[i]? = some (.dct xs)) : ∃ a kv', x = .ref a ∧ ρ[i]? = some a ∧ H a = some (.dK kv') ∧ kv'.map (·.1) = xs.map (·.1) ∧ k.RWs ρ H (xs.map (·.2)) (kv'.map (·.2)) := by
  cases r with
  | ref ea =>
    obtain ⟨vs, q, s⟩ := hr.obj i _ _ ea e
    exact ⟨_, vs, rfl, ea, q, s⟩
theorem RW.inst {ρ : List Addr} {h : Hv} {H : Hp} {i c : Nat} {xs : List (Nat × W)} {x : V} (hr : k.HR ρ h H) (r : k.RW ρ H (.ref i) x) (e : h[i]? = some (.ins c xs)) :
    c < k.T.cn.length ∧ ∃ a dx fs', x = .ref a ∧ ρ[i]? = some a ∧ H a = some (.ins (k.ca c) dx fs') ∧ (xs.map fun p => k.T.nm[p.1]?) = fs'.map (fun p => some p.1) ∧ k.RWs ρ H (xs.map (·.2)) (fs'.map (·.2)) := by
  cases r with
  | ref ea =>
    obtain ⟨hc, dx, fs, q, s⟩ := hr.obj i _ _ ea e
    exact ⟨hc, _, dx, fs, rfl, ea, q, s⟩
theorem op_dIn (hu : X.A.units + 1 < cLine) : OpR X (compareOp .In) (fun y x H Q => ∃ a o, x = .ref a ∧ DGet H a y o ∧ Q (.bl o.isSome) H) := by
  intro pins s σ H y x u v Q I ry rx ⟨a, o, ex, g, q⟩
  subst ex
  obtain rfl : v = Value.ref a := rx
  exact d_in hu I g ry fun s3 I3 => ⟨.bl o.isSome, H, I3, rfl, q⟩
theorem op_dNotIn (hu : X.A.units + 1 < cLine) : OpR X (compareOp .NotIn) (fun y x H Q => ∃ a o, x = .ref a ∧ DGet H a y o ∧ Q (.bl (!o.isSome)) H) := by
  intro pins s σ H y x u v Q I ry rx ⟨a, o, ex, g, q⟩
  subst ex
  obtain rfl : v = Value.ref a := rx
  exact d_notIn hu I g ry fun s3 I3 => ⟨.bl (!o.isSome), H, I3, rfl, q⟩
theorem in_ok (neg : Bool) (hu : X.A.units + 64 < cLine) (hK : X.K = k.K) {g : Value → Value → Sem Value} (o1 : OpR X g (rIn X.K neg)) (o2 : OpR X g (fun x y H Q => ∃ (c : Nat) (z : Str), x = .str ⟨#[c]⟩ ∧ y = .str z ∧ Q (.bl (if neg then !decide (c ∈ z.cps.toList) else decide (c ∈ z.cps.toList))) H))
    (o3 : OpR X g (fun y x H Q => ∃ a o, x = .ref a ∧ DGet H a y o ∧ Q (.bl (if neg then !o.isSome else o.isSome)) H)) : OpR X g (rP2 k fun a b h => (inO a b h).map fun r => (.bl (if neg then !r else r), h)) := op_of fun ρ h H a b x y Q hr r1 r2 t => by
  unfold Tp at t
  dsimp only at t
  cases e : inO a b h with
  | none => rw [e] at t; exact t.elim
  | some r =>
    rw [e] at t
    have q : Q (.bl (if neg then !r else r)) H := t _ _ (Go.refl hr) _ (.bl _)
    clear t
    unfold inO at e
    split at e
    · split at e
      · rename_i c
        cases e
        cases r2 with
        | tup s z => exact ⟨_, o1, in_seq (h := h) neg r1 z hK (.inr (by rw [hK]; exact s)) c q⟩
      · cases e
    · split at e
      · rename_i c
        cases e
        cases r2 with
        | rol s z => exact ⟨_, o1, in_seq (h := h) neg r1 z hK (.inl (by rw [hK]; exact s.sq)) c q⟩
      · cases e
    · cases r1; cases r2; cases e
      exact ⟨_, o2, _, _, rfl, rfl, by rw [S_tl]; exact q⟩
    · split at e
      · rename_i xs e1
        split at e
        · rename_i c
          cases e
          obtain ⟨p, vs, rfl, _, q2, q3⟩ := RW.list hr r2 e1
          exact ⟨_, o1, in_seq (h := h) neg r1 q3 hK (.inl (SqL.of q2)) c q⟩
        · cases e
      · rename_i kvs e1
        obtain ⟨p, kv', rfl, _, q2, q3, q4⟩ := RW.dict hr r2 e1
        simp only [Option.map_eq_some_iff] at e
        obtain ⟨z, ez, er⟩ := e
        rw [keyW_ok r1 ez]
        refine ⟨_, o3, p, valV kv' z, rfl, DGet.k q2, ?_⟩
        rcases dget_ok z q3 q4 with ⟨h1, h2⟩ | ⟨w, v, h1, h2, _⟩
        · rw [h1] at er
          rw [h2]
          subst er
          exact q
        · rw [h1] at er
          rw [h2]
          subst er
          exact q
      · cases e
    · cases e
theorem units1 (hu : X.A.units + 64 < cLine) : X.A.units + 1 < cLine := by omega
theorem o_in (hu : X.A.units + 64 < cLine) (hK : X.K = k.K) : OpR X (compareOp .In) (rP2 k inW) := in_ok false hu hK op_in_seq op_in_sign (op_dIn (units1 hu))
theorem o_notIn (hu : X.A.units + 64 < cLine) (hK : X.K = k.K) : OpR X (compareOp .NotIn) (rP2 k notInW) := in_ok true hu hK op_notIn_seq op_notIn_sign (op_dNotIn (units1 hu))
end
end
end Ev
set_option Elab.async false
set_option linter.all false
set_option maxRecDepth 100000
namespace Ev
open PySem L2
noncomputable section

def P.of {α : Type} (o : Option α) : P α := fun h => o.map fun a => (a, h)
theorem Tp.of {k : Kx} {α : Type} {ρ : List Addr} {h : Hv} {H : Hp} {o : Option α} {R : List Addr → Hv → Hp → α → Prop} (hr : k.HR ρ h H) (t : Tp k ρ h H (P.of o) R) : ∃ a, o = some a ∧ R ρ h H a := by
  unfold Tp P.of at t
  cases e : o with
  | none => rw [e] at t; exact t.elim
  | some a => rw [e] at t; exact ⟨a, rfl, t _ _ (Go.refl hr)⟩
/-- a[i] -/
def ixW : W → W → P W
  | .tup xs, .int i => P.of (atI xs i)
  | .rol xs, .int i => P.of (atI xs i)
  | .str x, .int i => P.iff (decide (x.length ≤ sizeLine)) (P.of ((atI x i).map fun c => .str [c]))
  | .ref n, .int i => P.obj n fun o => match o with
    | .lst xs => P.of (atI xs i)
    | .dct kvs => P.of (dgetW kvs (.inl i))
    | _ => P.fail
  | .ref n, .str z => P.dct n fun kvs => P.of (dgetW kvs (.inr (S z)))
  | _, _ => P.fail
def cutW {α : Type} (xs : List α) (lo hi : Option Int) : List α := (xs.drop (HT.sIx xs.length 0 lo)).take (HT.sIx xs.length xs.length hi - HT.sIx xs.length 0 lo)
def slW : W → Option Int → Option Int → P W
  | .tup xs, lo, hi => P.ok (.tup (cutW xs lo hi))
  | .rol xs, lo, hi => P.new (.lst (cutW xs lo hi))
  | .str x, lo, hi => P.iff (decide (x.length ≤ sizeLine)) (P.ok (.str (cutW x lo hi)))
  | .ref n, lo, hi => P.lst n fun xs => P.new (.lst (cutW xs lo hi))
  | _, _, _ => P.fail
section
variable {X : Cx} {k : Kx}
theorem atI_ok {ρ : List Addr} {H : Hp} {ws : List W} {vs : List V} {i : Int} {w : W} (s : k.RWs ρ H ws vs) (e : atI ws i = some w) : ∃ v, atI vs i = some v ∧ k.RW ρ H w v := by
  unfold atI at e ⊢
  rw [← s.length]
  cases q : ixN ws.length i with
  | none => rw [q] at e; cases e
  | some j =>
    rw [q] at e
    exact s.get (show ws[j]? = some w from e)
theorem ix_dK (hu : X.A.units + 1 < cLine) : IxR X (fun x y H Q => ∃ a v, x = .ref a ∧ DGet H a y (some v) ∧ Q v H) := by
  intro value slice pins s σ H x y v u Q I rx ry ⟨a, z, ex, g, q⟩ hs
  subst ex
  obtain rfl : v = Value.ref a := rx
  exact PyProof.Rows.tail_any (dict_typeIs I g) PySem.F.slot_dict_getitem.lookup (d_getItem hu I g ry fun w' s3 I3 rw' => ⟨z, H, I3, rw', q⟩) hs
theorem o_ix (hu : X.A.units + 64 < cLine) (hK : X.K = k.K) : IxR X (rP2 k ixW) := by
  intro value slice pins s σ H x y v u Q I rx ry ⟨ρ, h, a, b, hr, r1, r2, t⟩ hs
  suffices hh : ∃ r, IxR X r ∧ r x y H Q by
    obtain ⟨r, ho, q⟩ := hh
    exact ho value slice pins s σ H x y v u Q I rx ry q hs
  clear I rx ry hs
  unfold ixW at t
  split at t
  · obtain ⟨w, e, q⟩ := t.of hr
    cases r2
    cases r1 with
    | tup st z =>
      obtain ⟨v', e', r'⟩ := atI_ok z e
      exact ⟨_, ix_tup, _, _, _, v', rfl, rfl, by rw [hK]; exact st, e', q _ r'⟩
  · obtain ⟨w, e, q⟩ := t.of hr
    cases r2
    cases r1 with
    | rol st z =>
      obtain ⟨v', e', r'⟩ := atI_ok z e
      exact ⟨_, ix_list, _, _, _, v', rfl, rfl, by rw [hK]; exact st.sq, e', q _ r'⟩
  · obtain ⟨c, t⟩ := t.iff
    obtain ⟨w, e, q⟩ := t.of hr
    cases r1; cases r2
    simp only [Option.map_eq_some_iff] at e
    obtain ⟨c', e, rfl⟩ := e
    exact ⟨_, ix_str, _, _, c', rfl, rfl, by rw [S_len]; exact of_decide_eq_true c, by rw [S_tl]; exact e, q _ (.str [c'])⟩
  · rename_i n i
    obtain ⟨o, e, t⟩ := t.obj
    cases r2
    cases o with
    | lst xs =>
      obtain ⟨w, e1, q⟩ := t.of hr
      obtain ⟨p, vs, rfl, _, q2, q3⟩ := RW.list hr r1 e
      obtain ⟨v', e', r'⟩ := atI_ok q3 e1
      exact ⟨_, ix_list, _, _, _, v', rfl, rfl, SqL.of q2, e', q _ r'⟩
    | dct kvs =>
      obtain ⟨w, e1, q⟩ := t.of hr
      obtain ⟨p, kv', rfl, _, q2, q3, q4⟩ := RW.dict hr r1 e
      rcases dget_ok (.inl i) q3 q4 with ⟨h1, h2⟩ | ⟨w', v', h1, h2, h3⟩
      · rw [h1] at e1; cases e1
      · rw [h1] at e1; cases e1
        exact ⟨_, ix_dK (units1 hu), p, v', rfl, by rw [← h2]; exact DGet.k (k := .inl i) q2, q _ h3⟩
    | ins c xs => exact t.fail.elim
    | xdv _ => exact t.fail.elim
    | exo _ _ => exact t.fail.elim
    | pot _ _ => exact t.fail.elim
  · rename_i n z
    obtain ⟨kvs, e, t⟩ := t.dct
    obtain ⟨w, e1, q⟩ := t.of hr
    cases r2
    obtain ⟨p, kv', rfl, _, q2, q3, q4⟩ := RW.dict hr r1 e
    rcases dget_ok (.inr (S z)) q3 q4 with ⟨h1, h2⟩ | ⟨w', v', h1, h2, h3⟩
    · rw [h1] at e1; cases e1
    · rw [h1] at e1; cases e1
      exact ⟨_, ix_dK (units1 hu), p, v', rfl, by rw [← h2]; exact DGet.k (k := .inr (S z)) q2, q _ h3⟩
  · exact t.fail.elim
def rPS (k : Kx) (f : W → Option Int → Option Int → P W) : V → Option Int → Option Int → Hp → VK → Prop := fun x lo hi H Q => ∃ ρ h a, k.HR ρ h H ∧ k.RW ρ H a x ∧ Tp k ρ h H (f a lo hi) fun ρ' _ H' w => ∀ v, k.RW ρ' H' w v → Q v H'
theorem cut_ok {ρ : List Addr} {H : Hp} {ws : List W} {vs : List V} (s : k.RWs ρ H ws vs) (lo hi : Option Int) : k.RWs ρ H (cutW ws lo hi) (cutV vs lo hi) := by
  unfold cutW cutV
  rw [s.length]
  exact (s.drop _).take _
/-- a new tuple -/
theorem RW.newT {ρ : List Addr} {h : Hv} {H : Hp} {ws : List W} {vs : List V} {p : Addr} (hr : k.HR ρ h H) (np : H p = none) (s : k.RWs ρ H ws vs) : k.RW ρ (upd H p (.tup vs)) (.tup ws) (.ref p) := by
  have g : k.Go ρ H ρ h (upd H p (.tup vs)) := hr.pushT np
  exact .tup (SqT.of upd_same) (g.rws hr s)
theorem o_sl (hK : X.K = k.K) : SlR X (rPS k slW) := by
  intro pins s σ H x v vl vu lo hi sl Q I rx hs pl pu ⟨ρ, h, a, hr, r1, t⟩
  suffices hh : ∃ r, SlR X r ∧ r x lo hi H Q by
    obtain ⟨r, ho, q⟩ := hh
    exact ho pins s σ H x v vl vu lo hi sl Q I rx hs pl pu q
  clear I rx hs pl pu
  unfold slW at t
  split at t
  · cases r1 with
    | tup st z =>
      refine ⟨_, sl_tupA, _, _, rfl, by rw [hK]; exact st, fun e => ?_, fun _ p np => ?_⟩
      · refine t.ok hr _ (.tup st ?_)
        have q := cut_ok z lo hi
        unfold cutV at q
        rw [e.1, e.2, List.drop_zero, Nat.sub_zero, List.take_length] at q
        exact q
      · exact t _ _ (hr.pushT np) _ (RW.newT hr np (cut_ok z lo hi))
  · cases r1 with
    | rol st z =>
      refine ⟨_, sl_list, _, _, rfl, by rw [hK]; exact st.sq, fun p np => ?_⟩
      exact Tp.newL hr t (cut_ok z lo hi) np _ (RW.last hr)
  · obtain ⟨c, t⟩ := t.iff
    cases r1
    refine ⟨_, sl_str, _, rfl, by rw [S_len]; exact of_decide_eq_true c, ?_⟩
    have e : ∀ x : List Nat, cutS (S x) lo hi = S (cutW x lo hi) := fun x => by
      unfold cutS cutW
      rw [S_len, S_tl]
    rw [e]
    exact t.ok hr _ (.str _)
  · obtain ⟨xs, e1, t⟩ := t.lst
    obtain ⟨p, vs, rfl, _, q2, q3⟩ := RW.list hr r1 e1
    refine ⟨_, sl_list, _, _, rfl, SqL.of q2, fun p np => ?_⟩
    exact Tp.newL hr t (cut_ok q3 lo hi) np _ (RW.last hr)
  · exact t.fail.elim
end

/-! ### truth -/
def truO : W → Hv → Option Bool
  | .non, _ => some false
  | .bl b, _ => some b
  | .int i, _ => some (i != 0)
  | .str x, _ => if x.length ≤ sizeLine then some (!x.isEmpty) else none
  | .tup xs, _ => some (!xs.isEmpty)
  | .rol xs, _ => some (!xs.isEmpty)
  | .ref i, h => match h[i]? with
    | some (.lst xs) => some (!xs.isEmpty)
    | some (.dct xs) => some (!xs.isEmpty)
    | _ => none
  | _, _ => none
section
variable {X : Cx} {k : Kx}
theorem nonempty_len (x : List Nat) : (!x.isEmpty) = ((x.length : Int) != 0) := by
  cases x with
  | nil => rfl
  | cons c r =>
    have z : ((((c :: r).length : Nat) : Int) != 0) = true := by
      have : ¬ (((c :: r).length : Nat) : Int) = 0 := by rw [List.length_cons]; omega
      simpa using this
    rw [z]; rfl
theorem RWs.empty {ρ : List Addr} {H : Hp} {ws : List W} {vs : List V} (s : k.RWs ρ H ws vs) : (!ws.isEmpty) = !vs.isEmpty := by
  cases s <;> rfl
theorem tru_v {ρ : List Addr} {h : Hv} {H : Hp} {w : W} {v : V} {b : Bool} (hr : k.HR ρ h H) (r : k.RW ρ H w v) (e : truO w h = some b) : TruV k.K v H b := by
  unfold truO at e
  split at e
  · cases r; cases e; rfl
  · cases r; cases e; rfl
  · cases r; cases e; rfl
  · split at e
    · rename_i c
      cases r; cases e
      refine ⟨by rw [S_len]; exact c, ?_⟩
      rw [S_len]
      exact nonempty_len _
    · cases e
  · cases e
    cases r with
    | tup st z => exact .inr (.inl ⟨_, st, RWs.empty z⟩)
  · cases e
    cases r with
    | rol st z => exact .inl ⟨_, st.sq, RWs.empty z⟩
  · split at e
    · rename_i e1
      cases e
      obtain ⟨p, vs, rfl, _, q2, q3⟩ := RW.list hr r e1
      exact .inl ⟨_, SqL.of q2, RWs.empty q3⟩
    · rename_i xs e1
      cases e
      obtain ⟨p, kv', rfl, _, q2, q3, q4⟩ := RW.dict hr r e1
      refine .inr (.inr ⟨_, q2, ?_⟩)
      have hl : kv'.length = xs.length := by simpa using congrArg List.length q3
      cases kv' <;> cases xs <;> simp at hl <;> rfl
    · cases e
  · cases e
end
end
end Ev
set_option Elab.async false
set_option linter.all false
set_option maxRecDepth 100000
namespace Ev
open PySem L2
noncomputable section

def truP (w : W) : P Bool := fun h => (truO w h).map fun b => (b, h)
/-- as tests -/
def evTru (a : EE) : ET := fun env => do let w ← a env; (truP w).up
def boolP : W → P Bool
  | .bl b => P.ok b
  | _ => P.fail
def evTb (a : EE) : ET := fun env => do let w ← a env; (boolP w).up
def evAndT (a b : ET) : ET := fun env => do let x ← a env; match x with
  | true => b env
  | false => pure false
def evOrT (a b : ET) : ET := fun env => do let x ← a env; match x with
  | true => pure true
  | false => b env
def evNotT (a : ET) : ET := fun env => do let x ← a env; pure (!x)
/-- as values -/
def evAnd (a b : EE) : EE := fun env => do let x ← a env; let c ← (boolP x).up; match c with
  | true => b env
  | false => pure (.bl false)
def evOr (a b : EE) : EE := fun env => do let x ← a env; let c ← (boolP x).up; match c with
  | true => pure (.bl true)
  | false => b env
def evNot (a : EE) : EE := fun env => do let x ← a env; let c ← (boolP x).up; pure (.bl (!c))
def evIf (c : ET) (a b : EE) : EE := fun env => do let x ← c env; match x with
  | true => a env
  | false => b env
def evChain (f g : W → W → P W) (a b c : EE) : EE := fun env => do
  let x ← a env
  let y ← b env
  let z ← (f x y).up
  let t ← (boolP z).up
  match t with
  | true => do let w ← c env; (g y w).up
  | false => pure (.bl false)
/-- items of what is spread out -/
def itemsP : W → P (List W)
  | .tup xs => P.ok xs
  | .rol xs => P.ok xs
  | .ref i => P.lst i fun xs => P.ok xs
  | _ => P.fail
def evArgs : List (Bool × EE) → EL
  | [] => fun _ => pure []
  | (false, e) :: r => fun env => do let w ← e env; let ws ← evArgs r env; pure (w :: ws)
  | (true, e) :: r => fun env => do let w ← e env; let xs ← (itemsP w).up; let ws ← evArgs r env; pure (xs ++ ws)
def evTup (a : EL) : EE := fun env => do let ws ← a env; (P.iff (decide (ws.length ≤ sizeLine)) (P.ok (.tup ws))).up
def evLst (a : EL) : EE := fun env => do let ws ← a env; (P.iff (decide (ws.length ≤ sizeLine)) (P.new (.lst ws))).up
def partP : W → P Int
  | .int i => P.ok i
  | _ => P.fail
def evPart : Option EE → En → M (Option Int)
  | none, _ => pure none
  | some e, env => do let w ← e env; let i ← (partP w).up; pure (some i)
def evSl (a : EE) (lo hi : Option EE) : EE := fun env => do let x ← a env; let l ← evPart lo env; let u ← evPart hi env; (slW x l u).up
def fldP (f : Nat) : W → P W
  | .ref i => P.ins i fun _ fs => P.of (fs.lookup f)
  | _ => P.fail
def evFld (a : EE) (f : Nat) : EE := evU (fldP f) a

section
variable {X : Cx} {k : Kx} {Wx : WX}
theorem Tp.bool {ρ : List Addr} {h : Hv} {H : Hp} {w : W} {v : V} {R : List Addr → Hv → Hp → Bool → Prop} (hr : k.HR ρ h H) (t : Tp k ρ h H (boolP w) R) (r : k.RW ρ H w v) : ∃ b, w = .bl b ∧ v = .bl b ∧ R ρ h H b := by
  unfold boolP at t
  split at t
  · cases r; exact ⟨_, rfl, rfl, t.ok hr⟩
  · exact t.fail.elim
theorem c_tru {e : Expr} {a : EE} (hK : X.K = k.K) (he : PE X e (tE k Wx a)) (pl : ∀ whole, isTrue e X.env whole = (do let v ← whole; standAt e.pos; holding [v] (truthy v))) : PT X e (tT k Wx (evTru a)) := by
  refine (pt_truth he pl).imp fun σ H Q ⟨ρ, env, h, S, t⟩ => ⟨ρ, env, h, S, t.bind.mono fun ρ1 h1 H1 w g1 t1 v r => ?_⟩
  have t2 := t1.up
  unfold Tp truP at t2
  cases e : truO w h1 with
  | none => rw [e] at t2; exact t2.elim
  | some b =>
    rw [e] at t2
    exact ⟨b, by rw [hK]; exact tru_v g1.hr r e, t2 _ _ (Go.refl g1.hr)⟩
theorem t_test {t0 : TE} {a : EE} (ht : ∀ σ H Q, tE k Wx a σ H Q → t0 σ H Q) {σ : St} {H : Hp} {Q : Bool → Hp → Prop} (t : tT k Wx (evTb a) σ H Q) : tTest t0 σ H Q := by
  obtain ⟨ρ, env, h, S, t⟩ := t
  refine ht σ H _ ⟨ρ, env, h, S, t.bind.mono fun ρ1 h1 H1 w g1 t1 v r => ?_⟩
  obtain ⟨b, _, rfl, q⟩ := t1.up.bool g1.hr r
  exact ⟨b, rfl, q⟩
theorem c_cmpT {f : W → W → P W} {a b : Expr} {ea eb : EE} {op : CmpOp} {pos : Pos} (ho : OpR X (compareOp op) (rP2 k f)) (ha : PE X a (tE k Wx ea)) (hb : PE X b (tE k Wx eb)) (hm : behindInMarks op b = false) : PT X (.Compare a [op] [b] pos) (tT k Wx (evTb (evB f ea eb))) :=
  (pt_cmpR ho ha hb hm).imp fun _ _ _ => t_test fun _ _ _ => t_bin
theorem c_andT1 {a : Expr} {ea : ET} {pos : Pos} (ha : PT X a (tT k Wx ea)) : PW X (.BoolOp .And [a] pos) (tT k Wx ea) := pw_and1 ha
theorem c_orT1 {a : Expr} {ea : ET} {pos : Pos} (ha : PT X a (tT k Wx ea)) : PW X (.BoolOp .Or [a] pos) (tT k Wx ea) := pw_or1 ha
theorem c_andT {a b : Expr} {rest : List Expr} {ea eb : ET} {pos : Pos} (ha : PT X a (tT k Wx ea)) (hb : PW X (.BoolOp .And (b :: rest) pos) (tT k Wx eb)) : PW X (.BoolOp .And (a :: b :: rest) pos) (tT k Wx (evAndT ea eb)) := by
  refine (pw_and ha hb).imp fun σ H Q ⟨ρ, env, h, S, t⟩ => ⟨ρ, env, h, S, t.bind.mono fun ρ1 h1 H1 c g1 t1 => ?_⟩
  cases c with
  | true => exact ⟨ρ1, env, h1, ⟨g1.hr, g1.en S.hr S.en⟩, t1⟩
  | false => exact t1.pure g1.hr
theorem c_orT {a b : Expr} {rest : List Expr} {ea eb : ET} {pos : Pos} (ha : PT X a (tT k Wx ea)) (hb : PW X (.BoolOp .Or (b :: rest) pos) (tT k Wx eb)) : PW X (.BoolOp .Or (a :: b :: rest) pos) (tT k Wx (evOrT ea eb)) := by
  refine (pw_or ha hb).imp fun σ H Q ⟨ρ, env, h, S, t⟩ => ⟨ρ, env, h, S, t.bind.mono fun ρ1 h1 H1 c g1 t1 => ?_⟩
  cases c with
  | true => exact t1.pure g1.hr
  | false => exact ⟨ρ1, env, h1, ⟨g1.hr, g1.en S.hr S.en⟩, t1⟩
theorem c_notT {a : Expr} {ea : ET} {pos : Pos} (ha : PT X a (tT k Wx ea)) : PT X (.UnaryOp .Not a pos) (tT k Wx (evNotT ea)) :=
  (pt_not ha).imp fun σ H Q ⟨ρ, env, h, S, t⟩ => ⟨ρ, env, h, S, t.bind.mono fun ρ1 h1 H1 c g1 t1 => t1.pure g1.hr⟩
theorem c_and1 {op : BoolOp} {a : Expr} {ea : EE} {pos : Pos} (ha : PE X a (tE k Wx ea)) : PE X (.BoolOp op [a] pos) (tE k Wx ea) := pe_one ha
theorem c_and {a b : Expr} {rest : List Expr} {ea eb : EE} {pos : Pos} (ha : PE X a (tE k Wx ea)) (hb : PE X (.BoolOp .And (b :: rest) pos) (tE k Wx eb)) : PE X (.BoolOp .And (a :: b :: rest) pos) (tE k Wx (evAnd ea eb)) := by
  refine (pe_and ha hb).imp fun σ H Q ⟨ρ, env, h, S, t⟩ => ⟨ρ, env, h, S, t.bind.mono fun ρ1 h1 H1 w g1 t1 v r => ?_⟩
  obtain ⟨c, rfl, rfl, t2⟩ := t1.bind.up.bool g1.hr r
  refine ⟨c, rfl, ?_⟩
  cases c with
  | true => exact ⟨ρ1, env, h1, ⟨g1.hr, g1.en S.hr S.en⟩, t2⟩
  | false => exact t2.pure g1.hr _ (.bl _)
theorem c_or {a b : Expr} {rest : List Expr} {ea eb : EE} {pos : Pos} (ha : PE X a (tE k Wx ea)) (hb : PE X (.BoolOp .Or (b :: rest) pos) (tE k Wx eb)) : PE X (.BoolOp .Or (a :: b :: rest) pos) (tE k Wx (evOr ea eb)) := by
  refine (pe_or ha hb).imp fun σ H Q ⟨ρ, env, h, S, t⟩ => ⟨ρ, env, h, S, t.bind.mono fun ρ1 h1 H1 w g1 t1 v r => ?_⟩
  obtain ⟨c, rfl, rfl, t2⟩ := t1.bind.up.bool g1.hr r
  refine ⟨c, rfl, ?_⟩
  cases c with
  | true => exact t2.pure g1.hr _ (.bl _)
  | false => exact ⟨ρ1, env, h1, ⟨g1.hr, g1.en S.hr S.en⟩, t2⟩
theorem c_not {a : Expr} {ea : EE} {pos : Pos} (ha : PE X a (tE k Wx ea)) : PE X (.UnaryOp .Not a pos) (tE k Wx (evNot ea)) := by
  refine (pe_not ha).imp fun σ H Q ⟨ρ, env, h, S, t⟩ => ⟨ρ, env, h, S, t.bind.mono fun ρ1 h1 H1 w g1 t1 v r => ?_⟩
  obtain ⟨c, rfl, rfl, t2⟩ := t1.bind.up.bool g1.hr r
  exact ⟨c, rfl, t2.pure g1.hr _ (.bl _)⟩
theorem c_if {c a b : Expr} {ec : ET} {ea eb : EE} {pos : Pos} (hc : PT X c (tT k Wx ec)) (ha : PE X a (tE k Wx ea)) (hb : PE X b (tE k Wx eb)) : PE X (.IfExp c a b pos) (tE k Wx (evIf ec ea eb)) := by
  refine (pe_ifExp hc ha hb).imp fun σ H Q ⟨ρ, env, h, S, t⟩ => ⟨ρ, env, h, S, t.bind.mono fun ρ1 h1 H1 b g1 t1 => ?_⟩
  cases b with
  | true => exact ⟨ρ1, env, h1, ⟨g1.hr, g1.en S.hr S.en⟩, t1⟩
  | false => exact ⟨ρ1, env, h1, ⟨g1.hr, g1.en S.hr S.en⟩, t1⟩
theorem t_chain {f g : W → W → P W} {a b c : EE} {σ : St} {H : Hp} {Q : VK} (t : tE k Wx (evChain f g a b c) σ H Q) : tChain (rP2 k f) (rP2 k g) (tE k Wx a) (tE k Wx b) (tE k Wx c) σ H Q := by
  obtain ⟨ρ, env, h, S, t⟩ := t
  refine ⟨ρ, env, h, S, t.bind.mono fun ρ1 h1 H1 wa g1 t1 v1 r1 => ?_⟩
  refine ⟨ρ1, env, h1, ⟨g1.hr, g1.en S.hr S.en⟩, t1.bind.mono fun ρ2 h2 H2 wb g2 t2 v2 r2 => ?_⟩
  refine ⟨ρ2, h2, wa, wb, g2.hr, g2.rw g1.hr r1, r2, ?_⟩
  have t3 := t2.bind.up
  have e2 := g2.en g1.hr (g1.en S.hr S.en)
  unfold Tp at t3 ⊢
  cases q : f wa wb h2 with
  | none => rw [q] at t3; exact t3.elim
  | some r =>
    obtain ⟨z, h3⟩ := r
    rw [q] at t3
    intro ρ3 H3 g3 v3 r3
    have t4 := t3 ρ3 H3 g3
    obtain ⟨x, rfl, rfl, t5⟩ := t4.bind.up.bool g3.hr r3
    refine ⟨x, rfl, ?_⟩
    cases x with
    | true =>
      refine ⟨ρ3, env, h3, ⟨g3.hr, g3.en g2.hr e2⟩, t5.bind.mono fun ρ4 h4 H4 wc g4 t6 v4 r4 => ?_⟩
      exact ⟨ρ4, h4, wb, wc, g4.hr, g4.rw g3.hr (g3.rw g2.hr r2), r4, t6.up⟩
    | false => exact t5.pure g3.hr _ (.bl _)
theorem c_chain {f g : W → W → P W} {a b c : Expr} {ea eb ec : EE} {op op' : CmpOp} {pos : Pos} (ho : OpR X (compareOp op) (rP2 k f)) (ho' : OpR X (compareOp op') (rP2 k g)) (ha : PE X a (tE k Wx ea)) (hb : PE X b (tE k Wx eb)) (hc : PE X c (tE k Wx ec))
    (hm : lastMarks [op, op'] [b, c] = false) : PE X (.Compare a [op, op'] [b, c] pos) (tE k Wx (evChain f g ea eb ec)) := (pe_chain ho ho' ha hb hc hm).imp fun _ _ _ => t_chain
theorem c_chainT {f g : W → W → P W} {a b c : Expr} {ea eb ec : EE} {op op' : CmpOp} {pos : Pos} (ho : OpR X (compareOp op) (rP2 k f)) (ho' : OpR X (compareOp op') (rP2 k g)) (ha : PE X a (tE k Wx ea)) (hb : PE X b (tE k Wx eb)) (hc : PE X c (tE k Wx ec))
    (hm : lastMarks [op, op'] [b, c] = false) : PT X (.Compare a [op, op'] [b, c] pos) (tT k Wx (evTb (evChain f g ea eb ec))) := (pt_chain ho ho' ha hb hc hm).imp fun _ _ _ => t_test fun _ _ _ => t_chain

/-! ### arguments, displays -/
theorem Tp.items {ρ : List Addr} {h : Hv} {H : Hp} {w : W} {v : V} {R : List Addr → Hv → Hp → List W → Prop} (hr : k.HR ρ h H) (t : Tp k ρ h H (itemsP w) R) (r : k.RW ρ H w v) : ∃ a xs vs, v = .ref a ∧ (SqT k.K H a vs ∨ SqL k.K H a vs) ∧ k.RWs ρ H xs vs ∧ R ρ h H xs := by
  unfold itemsP at t
  split at t
  · cases r with
    | tup s z => exact ⟨_, _, _, rfl, .inl s, z, t.ok hr⟩
  · cases r with
    | rol s z => exact ⟨_, _, _, rfl, .inr s.sq, z, t.ok hr⟩
  · obtain ⟨xs, e, t⟩ := t.lst
    obtain ⟨a, vs, rfl, _, q, s⟩ := RW.list hr r e
    exact ⟨a, xs, vs, rfl, .inr (SqL.of q), s, t.ok hr⟩
  · exact t.fail.elim
theorem c_args0 : PA X [] (tL k Wx (evArgs [])) := pa_nil.imp fun σ H Q ⟨ρ, env, h, S, t⟩ => t.pure S.hr [] .nil
theorem c_args {e : Expr} {es : List Expr} {ea : EE} {r : List (Bool × EE)} (ha : PE X e (tE k Wx ea)) (hr : PA X es (tL k Wx (evArgs r))) (hs : starEach (e :: es) X.env = (false, eval e X.env) :: starEach es X.env) : PA X (e :: es) (tL k Wx (evArgs ((false, ea) :: r))) := by
  refine (pa_cons ha hr hs).imp fun σ H Q ⟨ρ, env, h, S, t⟩ => ⟨ρ, env, h, S, t.bind.mono fun ρ1 h1 H1 w g1 t1 v r1 => ?_⟩
  refine ⟨ρ1, env, h1, ⟨g1.hr, g1.en S.hr S.en⟩, t1.bind.mono fun ρ2 h2 H2 ws g2 t2 vs r2 => ?_⟩
  exact t2.pure g2.hr _ (.cons (g2.rw g1.hr r1) r2)
theorem c_argsS {e : Expr} {es : List Expr} {ea : EE} {r : List (Bool × EE)} {p : Pos} (hK : X.K = k.K) (ha : PE X e (tE k Wx ea)) (hr : PA X es (tL k Wx (evArgs r))) (hs : starEach (.Starred e p :: es) X.env = (true, eval e X.env) :: starEach es X.env) : PA X (.Starred e p :: es) (tL k Wx (evArgs ((true, ea) :: r))) := by
  refine (StX.pa_star ha hr hs).imp fun σ H Q ⟨ρ, env, h, S, t⟩ => ⟨ρ, env, h, S, t.bind.mono fun ρ1 h1 H1 w g1 t1 v r1 => ?_⟩
  obtain ⟨a, xs, vs, rfl, sq, z, t2⟩ := t1.bind.up.items g1.hr r1
  refine ⟨a, vs, rfl, by rw [hK]; exact sq, ρ1, env, h1, ⟨g1.hr, g1.en S.hr S.en⟩, t2.bind.mono fun ρ2 h2 H2 ws g2 t3 us r2 => ?_⟩
  exact t3.pure g2.hr _ ((g2.rws g1.hr z).append r2)
theorem c_tup {es : List Expr} {ea : EL} {x1 : Nat} {pos : Pos} (ha : PA X es (tL k Wx ea)) : PE X (.Tuple es x1 pos) (tE k Wx (evTup ea)) := by
  refine (pe_tup ha).imp fun σ H Q ⟨ρ, env, h, S, t⟩ => ⟨ρ, env, h, S, t.bind.mono fun ρ1 h1 H1 ws g1 t1 vs r => ?_⟩
  obtain ⟨c, t2⟩ := t1.up.iff
  refine ⟨by rw [← r.length]; exact of_decide_eq_true c, fun p np => ?_⟩
  exact t2 _ _ (g1.hr.pushT np) _ (RW.newT g1.hr np r)
theorem c_lst {es : List Expr} {ea : EL} {pos : Pos} (ha : PA X es (tL k Wx ea)) : PE X (.List es pos) (tE k Wx (evLst ea)) := by
  refine (pe_lst ha).imp fun σ H Q ⟨ρ, env, h, S, t⟩ => ⟨ρ, env, h, S, t.bind.mono fun ρ1 h1 H1 ws g1 t1 vs r => ?_⟩
  obtain ⟨c, t2⟩ := t1.up.iff
  refine ⟨by rw [← r.length]; exact of_decide_eq_true c, fun p np => ?_⟩
  exact Tp.newL g1.hr t2 r np _ (RW.last g1.hr)
/-! ### subscripts, slices, fields -/
theorem c_ix {a b : Expr} {ea eb : EE} {pos : Pos} (hu : X.A.units + 64 < cLine) (hK : X.K = k.K) (ha : PE X a (tE k Wx ea)) (hb : PE X b (tE k Wx eb)) (hs : PlainIx b) : PE X (.Subscript a b pos) (tE k Wx (evB ixW ea eb)) :=
  (pe_ix (o_ix hu hK) ha hb hs).imp fun _ _ _ => t_bin
def tP (k : Kx) (Wx : WX) (e : Option EE) : TO := fun σ H Q => ∃ ρ env h, Sim k ρ env h σ H ∧ Tm k Wx σ ρ h H (evPart e env) fun _ _ H' o => Q o H'
theorem c_part0 : PO X none (tP k Wx none) := by
  have p : PO X none tNoPart := po_none
  exact ⟨fun pins s σ H Q I ⟨ρ, env, h, S, t⟩ => p.run pins s σ H Q I (t.pure S.hr)⟩
theorem c_part {e : Expr} {ea : EE} (ha : PE X e (tE k Wx ea)) : PO X (some e) (tP k Wx (some ea)) := by
  have p : PO X (some e) (tPart (tE k Wx ea)) := po_some ha
  refine ⟨fun pins s σ H Q I ⟨ρ, env, h, S, t⟩ => p.run pins s σ H Q I ⟨ρ, env, h, S, t.bind.mono fun ρ1 h1 H1 w g1 t1 v r => ?_⟩⟩
  have t2 := t1.bind.up
  unfold partP at t2
  split at t2
  · cases r
    exact ⟨_, rfl, (t2.ok g1.hr).pure g1.hr⟩
  · exact t2.fail.elim
theorem c_sl {a : Expr} {lo hi : Option Expr} {ea : EE} {el eh : Option EE} {p2 pos : Pos} (hK : X.K = k.K) (ha : PE X a (tE k Wx ea)) (hl : PO X lo (tP k Wx el)) (hh : PO X hi (tP k Wx eh)) : PE X (.Subscript a (.Slice lo hi none p2) pos) (tE k Wx (evSl ea el eh)) := by
  refine (pe_slice (o_sl hK) ha hl hh).imp fun σ H Q ⟨ρ, env, h, S, t⟩ => ⟨ρ, env, h, S, t.bind.mono fun ρ1 h1 H1 w g1 t1 v r => ?_⟩
  refine ⟨ρ1, env, h1, ⟨g1.hr, g1.en S.hr S.en⟩, t1.bind.mono fun ρ2 h2 H2 l g2 t2 => ?_⟩
  refine ⟨ρ2, env, h2, ⟨g2.hr, g2.en g1.hr (g1.en S.hr S.en)⟩, t2.bind.mono fun ρ3 h3 H3 u g3 t3 => ?_⟩
  exact ⟨ρ3, h3, w, g3.hr, g3.rw g2.hr (g2.rw g1.hr r), t3.up⟩
/-- what the text's classes are -/
structure Clss (k : Kx) : Prop where
  cls : ∀ c, c < k.T.cn.length → Cls k.K (k.ca c)
  noat : ∀ c, c < k.T.cn.length → ∀ (f : Nat) (x : Str), k.T.nm[f]? = some x → NoAttr k.K (k.ca c) x
  nd : k.T.nm.Nodup
theorem lookup_fs {ρ : List Addr} {H : Hp} (nd : k.T.nm.Nodup) {f : Nat} {x : Str} (hx : k.T.nm[f]? = some x) : ∀ {fs : List (Nat × W)} {fs' : List (Str × V)}, (fs.map fun p => k.T.nm[p.1]?) = fs'.map (fun p => some p.1) → k.RWs ρ H (fs.map (·.2)) (fs'.map (·.2)) →
    (fs.lookup f = none ∧ fs'.lookup x = none) ∨ ∃ w v, fs.lookup f = some w ∧ fs'.lookup x = some v ∧ k.RW ρ H w v
  | [], [], _, _ => .inl ⟨rfl, rfl⟩
  | [], _ :: _, e, _ => by simp at e
  | _ :: _, [], e, _ => by simp at e
  | (z1, w1) :: fs, (z2, v2) :: fs', e, s => by
    simp only [List.map_cons, List.cons.injEq] at e
    obtain ⟨e1, e2⟩ := e
    cases s with
    | cons r s =>
      by_cases hz : f = z1
      · subst hz
        rw [hx] at e1
        cases e1
        exact .inr ⟨w1, v2, by simp [List.lookup], by simp [List.lookup], r⟩
      · have hzz : x ≠ z2 := fun q => by
          subst q
          obtain ⟨h1, q1⟩ := List.getElem?_eq_some_iff.mp hx
          obtain ⟨h2, q2⟩ := List.getElem?_eq_some_iff.mp e1
          exact hz ((List.getElem_inj nd).mp (q1.trans q2.symm))
        have q := lookup_fs nd hx e2 s
        have b1 : (f == z1) = false := by simpa using hz
        have b2 : (x == z2) = false := by simpa using hzz
        have h1 : ((z1, w1) :: fs).lookup f = fs.lookup f := by rw [List.lookup_cons, b1]
        have h2 : ((z2, v2) :: fs').lookup x = fs'.lookup x := by rw [List.lookup_cons, b2]
        rw [h1, h2]
        exact q
theorem c_fld {e : Expr} {ea : EE} {f : Nat} {x : Str} {pos : Pos} (C : Clss k) (hK : X.K = k.K) (hx : k.T.nm[f]? = some x) (ha : PE X e (tE k Wx ea)) (hb : attributeBase e x X.env (eval e X.env) = eval e X.env) : PE X (.Attribute e x pos) (tE k Wx (evFld ea f)) := by
  refine (pe_fld ha hb).imp fun σ H Q ⟨ρ, env, h, S, t⟩ => ⟨ρ, env, h, S, t.bind.mono fun ρ1 h1 H1 w g1 t1 v r => ?_⟩
  have t2 := t1.up
  unfold fldP at t2
  split at t2
  · obtain ⟨c, fs, e1, t3⟩ := t2.ins
    obtain ⟨w', e2, q⟩ := t3.of g1.hr
    obtain ⟨hc, a, dx, fs', rfl, _, q2, q3, q4⟩ := RW.inst g1.hr r e1
    rcases lookup_fs C.nd hx q3 q4 with ⟨h1, _⟩ | ⟨w2, v2, h1, h2, h3⟩
    · rw [h1] at e2; cases e2
    · rw [h1] at e2; cases e2
      exact ⟨a, _, dx, fs', v2, rfl, q2, by rw [hK]; exact C.cls c hc, by rw [hK]; exact C.noat c hc f x hx, h2, q _ h3⟩
  · exact t2.fail.elim
end
end
end Ev
set_option Elab.async false
set_option linter.all false
set_option maxRecDepth 100000
namespace Ev
open PySem L2
noncomputable section

def evCallP (f : List W → P W) (a : EL) : EE := fun env => do let ws ← a env; (f ws).up
def rPc (k : Kx) (f : List W → P W) : List V → Hp → VK → Prop := fun xs H Q => ∃ ρ h ws, k.HR ρ h H ∧ k.RWs ρ H ws xs ∧ Tp k ρ h H (f ws) fun ρ' _ H' w => ∀ v, k.RW ρ' H' w v → Q v H'
section
variable {X : Cx} {k : Kx} {Wx : WX}
theorem t_callP {f : List W → P W} {a : EL} {σ : St} {H : Hp} {Q : VK} (t : tE k Wx (evCallP f a) σ H Q) : tCB (rPc k f) (tL k Wx a) σ H Q := by
  obtain ⟨ρ, env, h, S, t⟩ := t
  exact ⟨ρ, env, h, S, t.bind.mono fun ρ1 h1 H1 ws g1 t1 vs r => ⟨ρ1, h1, ws, g1.hr, r, t1.up⟩⟩
theorem c_callB {f : List W → P W} {x : Str} {id : String} {e : Expr} {es : List Expr} {a : EL} {p pos : Pos} (hc : CallR X (.builtin id) (rPc k f)) (hg : Gl X x) (hm : X.mg x = none) (hv : bootBuiltins x = some (.builtin id)) (ha : PA X (e :: es) (tL k Wx a))
    (hn : x ≠ "__name__") (hd : (x == ("__debug__" : Str)) = false) (hs : starEach (e :: es) X.env = (false, eval e X.env) :: starEach es X.env) (hpl : (backTo pos (starEach es X.env)).any (·.1) = false) : PE X (.Call (.Name x p) (e :: es) [] pos) (tE k Wx (evCallP f a)) :=
  (pe_callB hc hg hm hv ha hn hd hs hpl).imp fun _ _ _ => t_callP
theorem c_callTy {f : List W → P W} {x : Str} {id : String} {e : Expr} {es : List Expr} {a : EL} {p pos : Pos} (hc : CallR X (.type id) (rPc k f)) (hg : Gl X x) (hm : X.mg x = none) (hv : bootBuiltins x = some (.type id)) (ha : PA X (e :: es) (tL k Wx a))
    (hn : x ≠ "__name__") (hd : (x == ("__debug__" : Str)) = false) (hs : starEach (e :: es) X.env = (false, eval e X.env) :: starEach es X.env) (hpl : (backTo pos (starEach es X.env)).any (·.1) = false) : PE X (.Call (.Name x p) (e :: es) [] pos) (tE k Wx (evCallP f a)) :=
  (pe_callTy hc hg hm hv ha hn hd hs hpl).imp fun _ _ _ => t_callP
theorem call_of {f : List W → P W} {g : Value}
    (hs : ∀ (ρ : List Addr) (h : Hv) (H : Hp) (ws : List W) (xs : List V) (Q : VK), k.HR ρ h H → k.RWs ρ H ws xs → (Tp k ρ h H (f ws) fun ρ' _ H' w => ∀ v, k.RW ρ' H' w v → Q v H') → ∃ r, CallR X g r ∧ r xs H Q) : CallR X g (rPc k f) := by
  intro pins s σ H xs us Q I rx ⟨ρ, h, ws, hr, r1, t⟩
  obtain ⟨r, ho, q⟩ := hs ρ h H ws xs Q hr r1 t
  exact ho pins s σ H xs us Q I rx q
end
/-! ### len -/
def lenP : List W → P W
  | [.str x] => P.iff (decide (x.length ≤ sizeLine)) (P.ok (.int x.length))
  | [.tup xs] => P.ok (.int xs.length)
  | [.rol xs] => P.ok (.int xs.length)
  | [.ref i] => P.obj i fun o => match o with
    | .lst xs => P.ok (.int xs.length)
    | .dct xs => P.ok (.int xs.length)
    | _ => P.fail
  | _ => P.fail
/-- int, str, abs, max, min -/
def strInt (i : Int) : List Nat := (toString i).toList.map Char.toNat
def intP : List W → P W
  | [.int i] => P.ok (.int i)
  | [.bl b] => P.ok (.int (if b then 1 else 0))
  | [.str x] => P.iff (decide (x.length ≤ 640)) (P.of ((PySem.intText? (S x)).map .int))
  | _ => P.fail
def strP : List W → P W
  | [.int i] => P.iff (decide (i.natAbs.log2 < 1920)) (P.ok (.str (strInt i)))
  | [.str x] => P.ok (.str x)
  | _ => P.fail
def absP : List W → P W
  | [.int i] => P.ok (.int (if i < 0 then -i else i))
  | _ => P.fail
def intsOf : List W → Option (List Int)
  | [] => some []
  | .int i :: r => (intsOf r).map (i :: ·)
  | _ :: _ => none
def boolsOf : List W → Option (List Bool)
  | [] => some []
  | .bl i :: r => (boolsOf r).map (i :: ·)
  | _ :: _ => none
def strsOf : List W → Option (List (List Nat))
  | [] => some []
  | .str i :: r => (strsOf r).map (i :: ·)
  | _ :: _ => none
def maxI : List Int → Option Int
  | [] => none
  | i :: r => some (r.foldl max i)
def maxP : List W → P W
  | [.int i, .int j] => P.ok (.int (if j > i then j else i))
  | [.ref n] => P.lst n fun xs => P.of ((intsOf xs).bind fun is => (maxI is).map .int)
  | _ => P.fail
def minP : List W → P W
  | [.int i, .int j] => P.ok (.int (if j < i then j else i))
  | _ => P.fail
def tupleP : List W → P W
  | [.tup xs] => P.ok (.tup xs)
  | [.rol xs] => P.ok (.tup xs)
  | [.ref n] => P.lst n fun xs => P.ok (.tup xs)
  | _ => P.fail
def listP : List W → P W
  | [.tup xs] => P.new (.lst xs)
  | [.rol xs] => P.new (.lst xs)
  | [.ref n] => P.lst n fun xs => P.new (.lst xs)
  | _ => P.fail
def allP : List W → P W
  | [.ref n] => P.lst n fun xs => P.of ((boolsOf xs).map fun bs => .bl (bs.all id))
  | _ => P.fail
def anyP : List W → P W
  | [.ref n] => P.lst n fun xs => P.of ((boolsOf xs).map fun bs => .bl (bs.any id))
  | _ => P.fail
def sumP : List W → P W
  | [.ref n] => P.lst n fun xs => P.of ((intsOf xs).map fun is => .int is.sum)
  | _ => P.fail
section
variable {X : Cx} {k : Kx}
theorem ints_ok {ρ : List Addr} {H : Hp} : ∀ {ws : List W} {vs : List V} {is : List Int}, k.RWs ρ H ws vs → intsOf ws = some is → vs = is.map V.int
  | _, _, _, .nil, e => by simp [intsOf] at e; subst e; rfl
  | w :: ws, _, is, .cons r s, e => by
    cases w <;> simp only [intsOf, Option.map_eq_some_iff] at e <;> try cases e
    rename_i i js e
    obtain ⟨e1, rfl⟩ := e
    cases r
    rw [ints_ok s e1]; rfl
theorem bools_ok {ρ : List Addr} {H : Hp} : ∀ {ws : List W} {vs : List V} {is : List Bool}, k.RWs ρ H ws vs → boolsOf ws = some is → vs = is.map V.bl
  | _, _, _, .nil, e => by simp [boolsOf] at e; subst e; rfl
  | w :: ws, _, is, .cons r s, e => by
    cases w <;> simp only [boolsOf, Option.map_eq_some_iff] at e <;> try cases e
    rename_i i js e
    obtain ⟨e1, rfl⟩ := e
    cases r
    rw [bools_ok s e1]; rfl
theorem strs_ok {ρ : List Addr} {H : Hp} : ∀ {ws : List W} {vs : List V} {is : List (List Nat)}, k.RWs ρ H ws vs → strsOf ws = some is → vs = (is.map S).map V.str
  | _, _, _, .nil, e => by simp [strsOf] at e; subst e; rfl
  | w :: ws, _, is, .cons r s, e => by
    cases w <;> simp only [strsOf, Option.map_eq_some_iff] at e <;> try cases e
    rename_i i js e
    obtain ⟨e1, rfl⟩ := e
    cases r
    rw [strs_ok s e1]; rfl
theorem b_len (hK : X.K = k.K) : CallR X (.builtin "len") (rPc k lenP) := call_of fun ρ h H ws xs Q hr rs t => by
  unfold lenP at t
  split at t
  · obtain ⟨v, rfl, r⟩ := rs.one
    obtain ⟨c, t⟩ := t.iff
    cases r
    refine ⟨_, call_len_str, _, rfl, by rw [S_len]; exact of_decide_eq_true c, ?_⟩
    rw [S_len]
    exact t.ok hr _ (.int _)
  · obtain ⟨v, rfl, r⟩ := rs.one
    cases r with
    | tup s z => refine ⟨_, call_len_seq, _, _, rfl, .inr (by rw [hK]; exact s), ?_⟩; rw [← z.length]; exact t.ok hr _ (.int _)
  · obtain ⟨v, rfl, r⟩ := rs.one
    cases r with
    | rol s z => refine ⟨_, call_len_seq, _, _, rfl, .inl (by rw [hK]; exact s.sq), ?_⟩; rw [← z.length]; exact t.ok hr _ (.int _)
  · obtain ⟨v, rfl, r⟩ := rs.one
    obtain ⟨o, e, t⟩ := t.obj
    cases o with
    | lst xs =>
      obtain ⟨a, vs, rfl, _, q, s⟩ := RW.list hr r e
      refine ⟨_, call_len_seq, _, _, rfl, .inl (SqL.of q), ?_⟩; rw [← s.length]; exact t.ok hr _ (.int _)
    | dct xs =>
      obtain ⟨a, kv', rfl, _, q2, q3, q4⟩ := RW.dict hr r e
      refine ⟨_, call_lenD, _, _, rfl, q2, ?_⟩
      have hl : kv'.length = xs.length := by simpa using congrArg List.length q3
      rw [hl]; exact t.ok hr _ (.int _)
    | ins c xs => exact t.fail.elim
    | xdv _ => exact t.fail.elim
    | exo _ _ => exact t.fail.elim
    | pot _ _ => exact t.fail.elim
  · exact t.fail.elim
theorem S_strInt (i : Int) : S (strInt i) = (toString i : String) := by
  refine TL.ext_tl ?_
  show (S (strInt i)).cps.toList = TL.tl (Str.ofString (toString i))
  rw [S_tl, TL.tl_ofString]; rfl
theorem b_int : CallR X (.type "int") (rPc k intP) := call_of fun ρ h H ws xs Q hr rs t => by
  unfold intP at t
  split at t
  · obtain ⟨v, rfl, r⟩ := rs.one; cases r
    exact ⟨_, call_int1, .inl ⟨_, rfl, t.ok hr _ (.int _)⟩⟩
  · obtain ⟨v, rfl, r⟩ := rs.one; cases r
    exact ⟨_, call_int1, .inr ⟨_, rfl, t.ok hr _ (.int _)⟩⟩
  · obtain ⟨v, rfl, r⟩ := rs.one; cases r
    obtain ⟨c, t⟩ := t.iff
    obtain ⟨w, e, q⟩ := t.of hr
    simp only [Option.map_eq_some_iff] at e
    obtain ⟨n, e, rfl⟩ := e
    exact ⟨_, call_int_str, _, n, rfl, e, by rw [S_len]; exact of_decide_eq_true c, q _ (.int _)⟩
  · exact t.fail.elim
theorem b_str : CallR X (.type "str") (rPc k strP) := call_of fun ρ h H ws xs Q hr rs t => by
  unfold strP at t
  split at t
  · obtain ⟨v, rfl, r⟩ := rs.one; cases r
    obtain ⟨c, t⟩ := t.iff
    refine ⟨_, call_str_int, _, rfl, of_decide_eq_true c, ?_⟩
    rw [← S_strInt]
    exact t.ok hr _ (.str _)
  · obtain ⟨v, rfl, r⟩ := rs.one; cases r
    exact ⟨_, SkE.call_str_str, _, rfl, t.ok hr _ (.str _)⟩
  · exact t.fail.elim
theorem b_abs : CallR X (.builtin "abs") (rPc k absP) := call_of fun ρ h H ws xs Q hr rs t => by
  unfold absP at t
  split at t
  · obtain ⟨v, rfl, r⟩ := rs.one; cases r
    exact ⟨_, call_abs, _, rfl, t.ok hr _ (.int _)⟩
  · exact t.fail.elim
theorem maxI_ok {is : List Int} {m : Int} (e : maxI is = some m) : 0 < is.length ∧ m ∈ is ∧ ∀ y ∈ is, y ≤ m := by
  cases is with
  | nil => cases e
  | cons i r =>
    simp only [maxI, Option.some.injEq] at e
    subst e
    have key : ∀ (r : List Int) (i : Int), (r.foldl max i = i ∨ r.foldl max i ∈ r) ∧ i ≤ r.foldl max i ∧ ∀ y ∈ r, y ≤ r.foldl max i := by
      intro r
      induction r with
      | nil => intro i; exact ⟨.inl rfl, Int.le_refl _, fun y hy => by cases hy⟩
      | cons j r ih =>
        intro i
        obtain ⟨h1, h2, h3⟩ := ih (max i j)
        simp only [List.foldl_cons]
        refine ⟨?_, Int.le_trans (Int.le_max_left i j) h2, fun y hy => ?_⟩
        · rcases h1 with h1 | h1
          · rw [h1]
            rcases Int.le_total i j with q | q
            · right; rw [Int.max_eq_right q]; exact List.mem_cons_self
            · left; rw [Int.max_eq_left q]
          · exact .inr (List.mem_cons_of_mem _ h1)
        · rcases List.mem_cons.mp hy with rfl | hy
          · exact Int.le_trans (Int.le_max_right i y) h2
          · exact h3 y hy
    obtain ⟨h1, h2, h3⟩ := key r i
    refine ⟨by simp, ?_, fun y hy => ?_⟩
    · rcases h1 with h1 | h1
      · rw [h1]; exact List.mem_cons_self
      · exact List.mem_cons_of_mem _ h1
    · rcases List.mem_cons.mp hy with rfl | hy
      · exact h2
      · exact h3 y hy
theorem b_max (hc : X.calm = true) : CallR X (.builtin "max") (rPc k maxP) := call_of fun ρ h H ws xs Q hr rs t => by
  unfold maxP at t
  split at t
  · obtain ⟨v, u, rfl, r, r2⟩ := rs.two; cases r; cases r2
    exact ⟨_, call_max2 hc, _, _, rfl, t.ok hr _ (.int _)⟩
  · obtain ⟨v, rfl, r⟩ := rs.one
    obtain ⟨xs, e, t⟩ := t.lst
    obtain ⟨w, e1, q⟩ := t.of hr
    simp only [Option.bind_eq_some_iff, Option.map_eq_some_iff] at e1
    obtain ⟨is, e1, m, e2, rfl⟩ := e1
    obtain ⟨a, vs, rfl, _, q2, s⟩ := RW.list hr r e
    rw [ints_ok s e1] at q2
    obtain ⟨m1, m2, m3⟩ := maxI_ok e2
    refine ⟨_, cr_max hc, a, is, rfl, SqL.of q2, m1, fun m' h1 h2 => ?_⟩
    have em : m' = m := Int.le_antisymm (m3 m' h1) (h2 m m2)
    rw [em]; exact q _ (.int _)
  · exact t.fail.elim
theorem b_min (hc : X.calm = true) : CallR X (.builtin "min") (rPc k minP) := call_of fun ρ h H ws xs Q hr rs t => by
  unfold minP at t
  split at t
  · obtain ⟨v, u, rfl, r, r2⟩ := rs.two; cases r; cases r2
    exact ⟨_, call_min2 hc, _, _, rfl, t.ok hr _ (.int _)⟩
  · exact t.fail.elim
theorem b_tuple (hK : X.K = k.K) : CallR X (.type "tuple") (rPc k tupleP) := call_of fun ρ h H ws xs Q hr rs t => by
  unfold tupleP at t
  split at t
  · obtain ⟨v, rfl, r⟩ := rs.one
    cases r with
    | tup s z => exact ⟨_, call_tuple_of, _, _, rfl, .inr ⟨by rw [hK]; exact s, t.ok hr _ (.tup s z)⟩⟩
  · obtain ⟨v, rfl, r⟩ := rs.one
    cases r with
    | rol s z => exact ⟨_, call_tuple_of, _, _, rfl, .inl ⟨by rw [hK]; exact s.sq, fun p np => t _ _ (hr.pushT np) _ (RW.newT hr np z)⟩⟩
  · obtain ⟨v, rfl, r⟩ := rs.one
    obtain ⟨xs, e, t⟩ := t.lst
    obtain ⟨a, vs, rfl, _, q2, s⟩ := RW.list hr r e
    exact ⟨_, call_tuple_of, _, _, rfl, .inl ⟨SqL.of q2, fun p np => t _ _ (hr.pushT np) _ (RW.newT hr np s)⟩⟩
  · exact t.fail.elim
theorem b_list (hK : X.K = k.K) : CallR X (.type "list") (rPc k listP) := call_of fun ρ h H ws xs Q hr rs t => by
  unfold listP at t
  split at t
  · obtain ⟨v, rfl, r⟩ := rs.one
    cases r with
    | tup s z => exact ⟨_, call_list_of, _, _, rfl, .inr (by rw [hK]; exact s), fun p np => Tp.newL hr t z np _ (RW.last hr)⟩
  · obtain ⟨v, rfl, r⟩ := rs.one
    cases r with
    | rol s z => exact ⟨_, call_list_of, _, _, rfl, .inl (by rw [hK]; exact s.sq), fun p np => Tp.newL hr t z np _ (RW.last hr)⟩
  · obtain ⟨v, rfl, r⟩ := rs.one
    obtain ⟨xs, e, t⟩ := t.lst
    obtain ⟨a, vs, rfl, _, q2, s⟩ := RW.list hr r e
    exact ⟨_, call_list_of, _, _, rfl, .inl (SqL.of q2), fun p np => Tp.newL hr t s np _ (RW.last hr)⟩
  · exact t.fail.elim
theorem b_all (hc : X.calm = true) : CallR X (.builtin "all") (rPc k allP) := call_of fun ρ h H ws xs Q hr rs t => by
  unfold allP at t
  split at t
  · obtain ⟨v, rfl, r⟩ := rs.one
    obtain ⟨xs, e, t⟩ := t.lst
    obtain ⟨w, e1, q⟩ := t.of hr
    simp only [Option.map_eq_some_iff] at e1
    obtain ⟨bs, e1, rfl⟩ := e1
    obtain ⟨a, vs, rfl, _, q2, s⟩ := RW.list hr r e
    rw [bools_ok s e1] at q2
    exact ⟨_, cr_all hc, a, bs, rfl, SqL.of q2, q _ (.bl _)⟩
  · exact t.fail.elim
theorem b_any (hc : X.calm = true) : CallR X (.builtin "any") (rPc k anyP) := call_of fun ρ h H ws xs Q hr rs t => by
  unfold anyP at t
  split at t
  · obtain ⟨v, rfl, r⟩ := rs.one
    obtain ⟨xs, e, t⟩ := t.lst
    obtain ⟨w, e1, q⟩ := t.of hr
    simp only [Option.map_eq_some_iff] at e1
    obtain ⟨bs, e1, rfl⟩ := e1
    obtain ⟨a, vs, rfl, _, q2, s⟩ := RW.list hr r e
    rw [bools_ok s e1] at q2
    exact ⟨_, cr_any hc, a, bs, rfl, SqL.of q2, q _ (.bl _)⟩
  · exact t.fail.elim
theorem b_sum (hc : X.calm = true) : CallR X (.builtin "sum") (rPc k sumP) := call_of fun ρ h H ws xs Q hr rs t => by
  unfold sumP at t
  split at t
  · obtain ⟨v, rfl, r⟩ := rs.one
    obtain ⟨xs, e, t⟩ := t.lst
    obtain ⟨w, e1, q⟩ := t.of hr
    simp only [Option.map_eq_some_iff] at e1
    obtain ⟨bs, e1, rfl⟩ := e1
    obtain ⟨a, vs, rfl, _, q2, s⟩ := RW.list hr r e
    rw [ints_ok s e1] at q2
    exact ⟨_, cr_sum hc, a, bs, rfl, SqL.of q2, q _ (.int _)⟩
  · exact t.fail.elim
end
end
end Ev
set_option Elab.async false
set_option linter.all false
set_option maxRecDepth 100000
namespace Ev
open PySem L2
noncomputable section

/-- the receiver is a text | a list -/
def isStrP : W → P Unit
  | .str _ => P.ok ()
  | _ => P.fail
def isLstP : W → P Unit
  | .ref i => P.lst i fun _ => P.ok ()
  | _ => P.fail
def evM (q : W → P Unit) (f : W → List W → P W) (o : EE) (a : EL) : EE := fun env => do let x ← o env; let _ ← (q x).up; let ws ← a env; (f x ws).up
def evM0 (q : W → P Unit) (f : W → List W → P W) (o : EE) : EE := fun env => do let x ← o env; let _ ← (q x).up; (f x []).up
def rPm (k : Kx) (f : W → List W → P W) : V → List V → Hp → VK → Prop := fun x xs H Q => ∃ ρ h a ws, k.HR ρ h H ∧ k.RW ρ H a x ∧ k.RWs ρ H ws xs ∧ Tp k ρ h H (f a ws) fun ρ' _ H' w => ∀ v, k.RW ρ' H' w v → Q v H'
section
variable {X : Cx} {k : Kx} {Wx : WX}
def Ty (k : Kx) (T : String) (q : W → P Unit) : Prop := ∀ {ρ : List Addr} {h : Hv} {H : Hp} {w : W} {v : V} {R : List Addr → Hv → Hp → Unit → Prop}, k.HR ρ h H → Tp k ρ h H (q w) R → k.RW ρ H w v → tyV k.K T v H ∧ R ρ h H ()
theorem ty_str : Ty k "str" isStrP := fun {ρ h H w v R} hr t r => by
  unfold isStrP at t
  split at t
  · cases r; exact ⟨rfl, t.ok hr⟩
  · exact t.fail.elim
theorem ty_lst : Ty k "list" isLstP := fun {ρ h H w v R} hr t r => by
  unfold isLstP at t
  split at t
  · obtain ⟨xs, e, t⟩ := t.lst
    obtain ⟨a, vs, rfl, _, q2, s⟩ := RW.list hr r e
    exact ⟨.inl ⟨rfl, vs, SqL.of q2⟩, t.ok hr⟩
  · exact t.fail.elim
theorem c_bm {T id : String} {q : W → P Unit} {f : W → List W → P W} {name : Str} {o e : Expr} {es : List Expr} {eo : EE} {a : EL} {apos cpos : Pos} (hK : X.K = k.K) (ty : Ty k T q) (pa : PlainAttrs T) (slot : Slot T name id) (hty : typeOf (.builtin id) = pure (.type "method_descriptor"))
    (hm : MtR X id (rPm k f)) (ho : PE X o (tE k Wx eo)) (ha : PA X (e :: es) (tL k Wx a)) (hbase : attributeBase o name X.env (eval o X.env) = eval o X.env)
    (hfew : ((backTo cpos (starEach (e :: es) X.env)).all (fun x => !x.1) && (backToKw cpos (keywordEach [] X.env)).all (fun x => x.1.isSome)
      && decide ((e :: es).length + ([] : List Keyword).length + (if ([] : List Keyword).isEmpty then 0 else 1) < 30)) = true)
    (hline : (apos.endLine == cpos.line) = true) (hs : starEach (e :: es) X.env = (false, eval e X.env) :: starEach es X.env) (hplain : (backTo cpos (starEach es X.env)).any (·.1) = false) :
    PE X (.Call (.Attribute o name apos) (e :: es) [] cpos) (tE k Wx (evM q f eo a)) := by
  refine (pe_bm pa slot hty hm ho ha hbase hfew hline hs hplain).imp fun σ H Q ⟨ρ, env, h, S, t⟩ => ⟨ρ, env, h, S, t.bind.mono fun ρ1 h1 H1 w g1 t1 v r => ?_⟩
  obtain ⟨tv, t2⟩ := ty g1.hr t1.bind.up r
  refine ⟨by rw [hK]; exact tv, ρ1, env, h1, ⟨g1.hr, g1.en S.hr S.en⟩, t2.bind.mono fun ρ2 h2 H2 ws g2 t3 vs rs => ?_⟩
  exact ⟨ρ2, h2, w, ws, g2.hr, g2.rw g1.hr r, rs, t3.up⟩
theorem c_bm0 {T id : String} {q : W → P Unit} {f : W → List W → P W} {name : Str} {o : Expr} {eo : EE} {apos cpos : Pos} (hK : X.K = k.K) (ty : Ty k T q) (pa : PlainAttrs T) (slot : Slot T name id) (hty : typeOf (.builtin id) = pure (.type "method_descriptor"))
    (hm : MtR X id (rPm k f)) (ho : PE X o (tE k Wx eo)) (hbase : attributeBase o name X.env (eval o X.env) = eval o X.env)
    (hline : (apos.endLine == cpos.line) = true) : PE X (.Call (.Attribute o name apos) [] [] cpos) (tE k Wx (evM0 q f eo)) := by
  refine (pe_bm0 pa slot hty hm ho hbase hline).imp fun σ H Q ⟨ρ, env, h, S, t⟩ => ⟨ρ, env, h, S, t.bind.mono fun ρ1 h1 H1 w g1 t1 v r => ?_⟩
  obtain ⟨tv, t2⟩ := ty g1.hr t1.bind.up r
  exact ⟨by rw [hK]; exact tv, ρ1, h1, w, [], g1.hr, r, .nil, t2.up⟩
theorem mt_of {f : W → List W → P W} {id : String}
    (hs : ∀ (ρ : List Addr) (h : Hv) (H : Hp) (a : W) (ws : List W) (x : V) (xs : List V) (Q : VK), k.HR ρ h H → k.RW ρ H a x → k.RWs ρ H ws xs → (Tp k ρ h H (f a ws) fun ρ' _ H' w => ∀ v, k.RW ρ' H' w v → Q v H') → ∃ r, MtR X id r ∧ r x xs H Q) : MtR X id (rPm k f) := by
  intro pins s σ H x xs v us Q I rx rs ⟨ρ, h, a, ws, hr, r1, r2, t⟩
  obtain ⟨r, ho, q⟩ := hs ρ h H a ws x xs Q hr r1 r2 t
  exact ho pins s σ H x xs v us Q I rx rs q
end
/-! ### texts -/
/-- signs below 256 in the separator -/
def lowS (y : List Nat) : Bool := y.all (· < 256)
def splitW (x y : List Nat) : List (List Nat) := TL.spl y 0 [] x
def splitP : W → List W → P W
  | .str x, [.str y] => P.iff (!y.isEmpty && (lowS y && decide (x.length + 2 ≤ sizeLine))) (P.new (.lst ((splitW x y).map .str)))
  | _, _ => P.fail
def partW (x y : List Nat) : List Nat × List Nat × List Nat := match TL.par y [] x with
  | some (a, b) => (a, y, b)
  | none => (x, [], [])
def partitionP : W → List W → P W
  | .str x, [.str y] => P.iff (!y.isEmpty && decide (x.length ≤ sizeLine)) (P.ok (.tup [.str (partW x y).1, .str (partW x y).2.1, .str (partW x y).2.2]))
  | _, _ => P.fail
def joinOk (x : List Nat) (ys : List (List Nat)) : Bool := decide ((ys.map (·.length)).sum + ys.length * x.length ≤ 16777216)
def joinP : W → List W → P W
  | .str x, [.ref i] => P.lst i fun ws => P.of ((strsOf ws).bind fun ys => if joinOk x ys then some (.str (TL.joinL x ys)) else none)
  | .str x, [.tup ws] => P.of ((strsOf ws).bind fun ys => if joinOk x ys then some (.str (TL.joinL x ys)) else none)
  | _, _ => P.fail
def lstripP : W → List W → P W
  | .str x, [.str y] => P.iff (decide (x.length ≤ sizeLine)) (P.ok (.str (x.dropWhile fun c => y.contains c)))
  | _, _ => P.fail
def rstripP : W → List W → P W
  | .str x, [.str y] => P.iff (decide (x.length ≤ sizeLine)) (P.ok (.str ((x.reverse.dropWhile fun c => y.contains c).reverse)))
  | _, _ => P.fail
def endsP : W → List W → P W
  | .str x, [.str y] => P.ok (.bl (y.isSuffixOf x))
  | _, _ => P.fail
def startsP : W → List W → P W
  | .str x, [.str y] => P.ok (.bl (y.isPrefixOf x))
  | _, _ => P.fail
/-! ### lists -/
def appendP : W → List W → P W
  | .ref i, [w] => P.lst i fun xs => P.iff (decide (xs.length < sizeLine)) (P.put i (.lst (xs ++ [w])) .non)
  | _, _ => P.fail
def extendP : W → List W → P W
  | .ref i, [.ref j] => P.lst i fun xs => P.lst j fun ys => P.iff (decide (xs.length + ys.length ≤ sizeLine)) (P.put i (.lst (xs ++ ys)) .non)
  | _, _ => P.fail
section
variable {X : Cx} {k : Kx}
theorem map_S {l : List Str} {m : List (List Nat)} (h : l.map TL.tl = m) : l = m.map S := by
  subst h
  rw [List.map_map]
  conv => lhs; rw [← List.map_id l]
  refine List.map_congr_left fun x _ => ?_
  exact (TL.mk_tl x).symm
theorem S_ne {y : List Nat} (h : (!y.isEmpty) = true) : TL.tl (S y) ≠ [] := by
  show (S y).cps.toList ≠ []
  rw [S_tl]
  intro z; rw [z] at h; cases h
theorem S_len0 {y : List Nat} (h : (!y.isEmpty) = true) : ((S y).length == 0) = false := by
  rw [S_len]
  cases y with
  | nil => cases h
  | cons c r => rfl
theorem split_S {x y : List Nat} (c1 : (!y.isEmpty) = true) (c2 : lowS y = true) : Txt.split (S x) (S y) = (splitW x y).map S := by
  refine map_S ?_
  rw [TL.split_spl _ _ (S_ne c1) (TL.kind_ok (by
    show (y.toArray).all (fun c => decide (c < 256)) = true
    rw [List.all_toArray]; exact c2))]
  unfold splitW
  show TL.spl ((S y).cps.toList) 0 [] ((S x).cps.toList) = _
  rw [S_tl, S_tl]
theorem part_S {x y : List Nat} (c1 : (!y.isEmpty) = true) : Txt.partition (S x) (S y) = (S (partW x y).1, S (partW x y).2.1, S (partW x y).2.2) := by
  rw [TL.partition_par _ _ (S_ne c1)]
  have e1 : TL.tl (S y) = y := S_tl y
  have e2 : TL.tl (S x) = x := S_tl x
  unfold partW
  rw [e1, e2]
  cases TL.par y [] x with
  | none => rfl
  | some q => rfl
theorem m_split : MtR X "str.split" (rPm k splitP) := mt_of fun ρ h H a ws x xs Q hr r1 rs t => by
  unfold splitP at t
  split at t
  · obtain ⟨v, rfl, r⟩ := rs.one
    obtain ⟨c, t⟩ := t.iff
    simp only [Bool.and_eq_true] at c
    obtain ⟨c1, c2, c3⟩ := c
    cases r1; cases r
    refine ⟨_, mt_split, _, _, rfl, rfl, S_len0 c1, by rw [S_len]; exact of_decide_eq_true c3, fun p np => ?_⟩
    rw [split_S c1 c2]
    have s : ∀ l : List (List Nat), k.RWs ρ H (l.map .str) ((l.map S).map V.str) := fun l => by
      induction l with
      | nil => exact .nil
      | cons a r ih => exact .cons (.str a) ih
    exact Tp.newL hr t (s _) np _ (RW.last hr)
  · exact t.fail.elim
theorem m_partition : MtR X "str.partition" (rPm k partitionP) := mt_of fun ρ h H a ws x xs Q hr r1 rs t => by
  unfold partitionP at t
  split at t
  · obtain ⟨v, rfl, r⟩ := rs.one
    obtain ⟨c, t⟩ := t.iff
    simp only [Bool.and_eq_true] at c
    obtain ⟨c1, c3⟩ := c
    cases r1; cases r
    refine ⟨_, mt_partition, _, _, rfl, rfl, S_len0 c1, by rw [S_len]; exact of_decide_eq_true c3, fun p np => ?_⟩
    rw [part_S c1]
    exact t _ _ (hr.pushT np) _ (RW.newT hr np (.cons (.str _) (.cons (.str _) (.cons (.str _) .nil))))
  · exact t.fail.elim
theorem join_S (x : List Nat) (ys : List (List Nat)) : Txt.join (S x) (ys.map S) = S (TL.joinL x ys) := by
  rw [TL.join_eq]
  refine TL.ext_tl ?_
  rw [TL.tl_join, List.map_map]
  have e1 : TL.tl (S x) = x := S_tl x
  have e2 : (TL.tl ∘ S) = id := funext fun z => S_tl z
  rw [e1, e2, List.map_id]
theorem joinOk_len {x : List Nat} {ys : List (List Nat)} (h : joinOk x ys = true) : ((ys.map S).map (·.length)).sum + (ys.map S).length * (S x).length ≤ 16777216 := by
  have e : (ys.map S).map (·.length) = ys.map (·.length) := by
    rw [List.map_map]; exact List.map_congr_left fun z _ => S_len z
  rw [e, S_len, List.length_map]
  exact of_decide_eq_true h
theorem m_join (hK : X.K = k.K) : MtR X "str.join" (rPm k joinP) := mt_of fun ρ h H a ws x xs Q hr r1 rs t => by
  unfold joinP at t
  split at t
  · obtain ⟨v, rfl, r⟩ := rs.one
    obtain ⟨zs, e, t⟩ := t.lst
    obtain ⟨w, e1, q⟩ := t.of hr
    simp only [Option.bind_eq_some_iff] at e1
    obtain ⟨ys, e1, e2⟩ := e1
    split at e2
    · rename_i c
      cases e2
      cases r1
      obtain ⟨a, vs, rfl, _, q2, s⟩ := RW.list hr r e
      rw [strs_ok s e1] at q2
      refine ⟨_, mt_join, _, a, _, rfl, rfl, .inl (SqL.of q2), joinOk_len c, ?_⟩
      rw [join_S]
      exact q _ (.str _)
    · cases e2
  · obtain ⟨v, rfl, r⟩ := rs.one
    obtain ⟨w, e1, q⟩ := t.of hr
    simp only [Option.bind_eq_some_iff] at e1
    obtain ⟨ys, e1, e2⟩ := e1
    split at e2
    · rename_i c
      cases e2
      cases r1
      cases r with
      | tup st z =>
        rw [strs_ok z e1] at st
        refine ⟨_, mt_join, _, _, _, rfl, rfl, .inr (by rw [hK]; exact st), joinOk_len c, ?_⟩
        rw [join_S]
        exact q _ (.str _)
    · cases e2
  · exact t.fail.elim
theorem m_append : MtR X "list.append" (rPm k appendP) := mt_of fun ρ h H a ws x xs Q hr r1 rs t => by
  unfold appendP at t
  split at t
  · obtain ⟨v, rfl, r⟩ := rs.one
    obtain ⟨zs, e, t⟩ := t.lst
    obtain ⟨c, t⟩ := t.iff
    obtain ⟨a, vs, rfl, ea, q2, s⟩ := RW.list hr r1 e
    refine ⟨_, mt_append, a, vs, v, rfl, rfl, q2, by rw [← s.length]; exact of_decide_eq_true c, ?_⟩
    have f : Fr ρ H (upd H a (.lst (vs ++ [v]))) := fun b ob eb hb => by
      have nb : b ≠ a := fun z => hb (by rw [z]; exact List.mem_of_getElem? ea)
      rw [upd_ne nb]; exact eb
    exact t _ _ (hr.put ea ⟨_, upd_same, hr.rws f (fun _ _ e => e) (s.append (.cons r .nil))⟩) _ .non
  · exact t.fail.elim
theorem m_extend : MtR X "list.extend" (rPm k extendP) := mt_of fun ρ h H a ws x xs Q hr r1 rs t => by
  unfold extendP at t
  split at t
  · obtain ⟨v, rfl, r⟩ := rs.one
    obtain ⟨zs, e, t⟩ := t.lst
    obtain ⟨ys, e2, t⟩ := t.lst
    obtain ⟨c, t⟩ := t.iff
    obtain ⟨a, vs, rfl, ea, q2, s⟩ := RW.list hr r1 e
    obtain ⟨b, us, rfl, eb, q3, s2⟩ := RW.list hr r e2
    refine ⟨_, mt_extend, a, b, vs, us, rfl, rfl, q2, q3, by rw [← s.length, ← s2.length]; exact of_decide_eq_true c, ?_⟩
    have f : Fr ρ H (upd H a (.lst (vs ++ us))) := fun b ob eb hb => by
      have nb : b ≠ a := fun z => hb (by rw [z]; exact List.mem_of_getElem? ea)
      rw [upd_ne nb]; exact eb
    exact t _ _ (hr.put ea ⟨_, upd_same, hr.rws f (fun _ _ e => e) (s.append s2)⟩) _ .non
  · exact t.fail.elim
end
end
end Ev
set_option Elab.async false
set_option linter.all false
set_option maxRecDepth 100000
namespace Ev
open PySem L2 PySem.Spec PyProof.Rows
noncomputable section
theorem drop_takeWhile (p : Nat → Bool) : ∀ x : List Nat, x.drop (x.takeWhile p).length = x.dropWhile p
  | [] => rfl
  | a :: r => by
    rw [List.takeWhile_cons, List.dropWhile_cons]
    by_cases h : p a = true
    · rw [if_pos h, if_pos h, List.length_cons, List.drop_succ_cons]; exact drop_takeWhile p r
    · rw [if_neg h, if_neg h]; rfl
theorem lstrip_S (x y : List Nat) : Txt.lstripChars (S x) (S y) = S (x.dropWhile fun c => y.contains c) := by
  unfold Txt.lstripChars
  rw [stripBy_eq]
  have e : (S y).cps.contains = fun c => y.contains c := by funext c; simp [S]
  rw [e]
  refine TL.ext_tl ?_
  show ((S x).cps.extract _ _).toList = (S _).cps.toList
  rw [S_tl]
  simp only [stripHi, stripLo, Bool.false_eq_true, if_false, if_true]
  rw [Array.toList_extract, S_tl, S_len, List.extract_eq_drop_take, drop_takeWhile]
  refine List.take_of_length_le ?_
  rw [← drop_takeWhile, List.length_drop]
  omega
section
variable {X : Cx} {k : Kx}
theorem m_lstrip : MtR X "str.lstrip" (rPm k lstripP) := mt_of fun ρ h H a ws x xs Q hr r1 rs t => by
  unfold lstripP at t
  split at t
  · obtain ⟨v, rfl, r⟩ := rs.one
    obtain ⟨c, t⟩ := t.iff
    cases r1; cases r
    refine ⟨_, mt_lstripChars, S _, S _, rfl, rfl, by rw [S_len]; exact of_decide_eq_true c, ?_⟩
    rw [lstrip_S]
    exact t.ok hr _ (.str _)
  · exact t.fail.elim
theorem ends_S (x y : List Nat) : Txt.endswith (S x) (S y) = y.isSuffixOf x := by
  unfold Txt.endswith
  rw [S_len, S_len]
  by_cases h : y.length ≤ x.length
  · have e : Builtin.Str.subAt (S x) (S y) (x.length - y.length) = decide (x.drop (x.length - y.length) = y) := by
      unfold Builtin.Str.subAt
      rw [S_len]
      have : x.length - y.length + y.length = x.length := by omega
      rw [this]
      have q : ((S x).cps.extract (x.length - y.length) x.length == (S y).cps) = decide (((S x).cps.extract (x.length - y.length) x.length).toList = (S y).cps.toList) := by
        rw [Bool.eq_iff_iff]
        simp
      rw [q, S_tl, Array.toList_extract, S_tl, List.extract_eq_drop_take, List.take_of_length_le (by rw [List.length_drop]; omega)]
    rw [e]
    have z : decide (0 + y.length ≤ x.length) = true := decide_eq_true (by omega)
    rw [z, Bool.true_and, Bool.eq_iff_iff, decide_eq_true_eq, List.isSuffixOf_iff_suffix]
    constructor
    · intro q; exact ⟨x.take (x.length - y.length), by have := List.take_append_drop (x.length - y.length) x; rw [q] at this; exact this⟩
    · rintro ⟨p, rfl⟩; simp
  · have z : decide (0 + y.length ≤ x.length) = false := decide_eq_false (by omega)
    rw [z, Bool.false_and]
    symm
    rw [Bool.eq_false_iff]
    intro q
    exact h (List.IsSuffix.length_le (List.isSuffixOf_iff_suffix.mp q))
theorem m_endswith : MtR X "str.endswith" (rPm k endsP) := mt_of fun ρ h H a ws x xs Q hr r1 rs t => by
  unfold endsP at t
  split at t
  · obtain ⟨v, rfl, r⟩ := rs.one
    cases r1; cases r
    refine ⟨_, mt_endswith, S _, S _, rfl, rfl, ?_⟩
    rw [ends_S]
    exact t.ok hr _ (.bl _)
  · exact t.fail.elim
end
end
end Ev
set_option Elab.async false
set_option linter.all false
set_option maxRecDepth 100000
namespace Ev
open PySem L2 PySem.Spec PyProof.Rows
noncomputable section

/-! ### calls whose exceptions are wished for at the slots -/
section
variable {X : Cx} {CX : CXT} {k : Nat} {f C : Addr} {fd : FuncData} {ps : List Str} {sp : Sp} {dvs : List V} {ds : List Value} {E : L2.St → XK} {x m : Str} {p pos apos : Pos} {e o : Expr} {es : List Expr} {ta : TE} {t : TA}
def tMethS (C : Addr) (m : Str) (sp : Sp) (dvs : List V) (E : L2.St → XK) (ta : TE) (t : TA) : TE := fun σ H Q => ta σ H fun x H1 => ∃ a dx fs, x = .ref a ∧ H1 a = some (.ins C dx fs) ∧ fs.lookup m = none ∧
  t σ H1 fun vs H2 => sp (x :: (vs ++ dvs)) H2 Q (E σ)
def tMakeS (C : Addr) (sp : Sp) (dvs : List V) (E : L2.St → XK) (t : TA) : TE := fun σ H Q => t σ H fun vs H1 => ∀ x dx, H1 x = none → H1 dx = none → dx ≠ x →
  sp (.ref x :: (vs ++ dvs)) (upd (upd H1 dx (.own x)) x (.ins C dx [])) (fun v H2 => v = .non ∧ Q (.ref x) H2) (E σ)
theorem pe_call0S (F : FnOk X.prog X.w X.K X.mg X.base CX k f fd ps sp) (hr : Room k X.A) (hg : Gl X x) (hm : X.mg x = some (.ref f)) (hk : PySem.W.keepIn X.K (.ref f) = true) (hb : L2.Binds X.K fd ps ds) (hd : Vals dvs ds) (hx : ∀ σ, PassesAt CX X σ (E σ))
    (hdb : (x == ("__debug__" : Str)) = false) : PE X (.Call (.Name x p) [] [] pos) (tCallSD sp dvs E tNil) := by
  refine ⟨fun pins s σ H Q I h => ?_⟩
  refine wpAny_Call_Name_kw (ld_glob I hg hm ?_ hdb)
  exact PySem.W.callWith_K0 I.kIn hk (run_fnSD (us := []) F hr hb hd (hx σ) I .nil h)
theorem pe_methS {pl : Sem Bool} (he : PE X o ta) (c : Cls X.K C) (hm : Meth X.K C m f) (F : FnOk X.prog X.w X.K X.mg X.base CX k f fd ps sp) (hr : Room k X.A) (hb : L2.Binds X.K fd ps ds) (hd : Vals dvs ds) (hx : ∀ σ, PassesAt CX X σ (E σ)) (ha : PA X (e :: es) t)
    (hst : starEach (e :: es) X.env = (false, eval e X.env) :: starEach es X.env) (hpl : (backTo pos (starEach es X.env)).any (·.1) = false)
    (ht : eval (.Call (.Attribute o m apos) (e :: es) [] pos) X.env = (do
      let ov ← eval o X.env
      standAt apos.atName
      let (f, first) ← holding [ov] (getMethod ov m pl)
      callWith pos f first (backTo pos (starEach (e :: es) X.env)) (backToKw pos (keywordEach [] X.env)))) :
    PE X (.Call (.Attribute o m apos) (e :: es) [] pos) (tMethS C m sp dvs E ta t) := by
  refine ⟨fun pins s σ H Q I h => ?_⟩
  refine PySem.W.methodCall_KW (pl := pl) (thn (he.run pins s σ H _ I h) fun u s1 ⟨x, H1, I1, rx, a, dx, fs, ex, ea, l, q⟩ => ?_) ht
  subst ex
  obtain rfl : u = Value.ref a := rx
  refine getmeth_ok I1 ea c hm l ?_
  refine PySem.W.callWith_K (first := [.ref a]) (h₀ := X.base) I.ok.mod.kin hm.kp (thn (ha.run pos pins s1 σ H1 _ I1 q) fun us s2 ⟨vs, H2, I2, r, q2⟩ => ⟨I2.kIn, ?_⟩) hst hpl
  exact run_fnSD (us := .ref a :: us) (vs := .ref a :: vs) F hr hb hd (hx σ) I2 (.cons rfl r) q2
theorem pe_meth0S {pl : Sem Bool} (he : PE X o ta) (c : Cls X.K C) (hm : Meth X.K C m f) (F : FnOk X.prog X.w X.K X.mg X.base CX k f fd ps sp) (hr : Room k X.A) (hb : L2.Binds X.K fd ps ds) (hd : Vals dvs ds) (hx : ∀ σ, PassesAt CX X σ (E σ))
    (ht : eval (.Call (.Attribute o m apos) [] [] pos) X.env = (do
      let ov ← eval o X.env
      standAt apos.atName
      let (f, first) ← holding [ov] (getMethod ov m pl)
      callWith pos f first (backTo pos (starEach [] X.env)) (backToKw pos (keywordEach [] X.env)))) :
    PE X (.Call (.Attribute o m apos) [] [] pos) (tMethS C m sp dvs E ta tNil) := by
  refine ⟨fun pins s σ H Q I h => ?_⟩
  refine PySem.W.methodCall_KW (pl := pl) (thn (he.run pins s σ H _ I h) fun u s1 ⟨x, H1, I1, rx, a, dx, fs, ex, ea, l, q⟩ => ?_) ht
  subst ex
  obtain rfl : u = Value.ref a := rx
  refine getmeth_ok I1 ea c hm l ?_
  exact PySem.W.callWith_K0 (first := [.ref a]) I1.kIn hm.kp (run_fnSD (us := [.ref a]) (vs := [.ref a]) F hr hb hd (hx σ) I1 (.cons rfl .nil) q)
theorem run_makeS {pins : List (Addr × Obj)} {σ : L2.St} {H : Hp} {s : Shared} {Q : VK} {us : List Value} {vs : List V} (M : Mk X.K C f) (F : FnOk X.prog X.w X.K X.mg X.base CX k f fd ps sp) (hr : Room (k + 1) X.A) (hb : L2.Binds X.K fd ps ds) (hd : Vals dvs ds)
    (hx : PassesAt CX X σ (E σ)) (I : Inv X pins σ H s) (r : Vals vs us)
    (h : ∀ x dx, H x = none → H dx = none → dx ≠ x → sp (.ref x :: (vs ++ dvs)) (upd (upd H dx (.own x)) x (.ins C dx [])) (fun v H2 => v = .non ∧ Q (.ref x) H2) (E σ)) :
    wpAny (model X.prog X.w) X.A (call (.ref C) us) (EP X pins σ Q) X.xe s := by
  have hq := h (s.heap.objs.size + 1) s.heap.objs.size (I.hok.fresh (Nat.le_succ _)) (I.hok.fresh (Nat.le_refl _)) (Nat.ne_of_lt (Nat.lt_succ_self _))
  have I2 := Inv.made (C := C) I
  have r2 : Vals (V.ref (s.heap.objs.size + 1) :: (vs ++ dvs)) (Value.ref (s.heap.objs.size + 1) :: (us ++ ds)) := .cons rfl (r.append hd)
  have hl : (Value.ref (s.heap.objs.size + 1) :: us ++ ds).length = ps.length := by
    have e := r2.length
    rw [F.len _ _ _ _ hq] at e
    exact e.symm
  refine wpAny_call (make_map (f := f) I.kIn M.makes M.init (beq_iff_eq.mp M.fn) (codeAny_mono (F.run _ X.stack _ _ ⟨Value.ref (s.heap.objs.size + 1) :: us, []⟩ (Value.ref (s.heap.objs.size + 1) :: (us ++ ds)) _ _ (E σ) (hr.make C us [])
    (I2.env0.make C us []) (hb _ (Value.ref (s.heap.objs.size + 1) :: us) I2.kIn hl) r2 hq) fun r s' hq' => ?_))
  cases r with
  | error e => exact hx pins _ _ e s' I2 hq'
  | ok fl =>
    cases fl with
    | ret u =>
      obtain ⟨v, H', I3, rv, ev, q3⟩ := I2.after hq'
      subst ev
      exact ⟨rv, ⟨V.ref (s.heap.objs.size + 1), H', I3, rfl, q3⟩⟩
    | next => exact False.elim hq'
    | brk => exact False.elim hq'
    | cont => exact False.elim hq'
theorem pe_makeS (M : Mk X.K C f) (F : FnOk X.prog X.w X.K X.mg X.base CX k f fd ps sp) (hr : Room (k + 1) X.A) (hg : Gl X x) (hm : X.mg x = some (.ref C)) (hb : L2.Binds X.K fd ps ds) (hd : Vals dvs ds) (hx : ∀ σ, PassesAt CX X σ (E σ))
    (ha : PA X (e :: es) t) (hdb : (x == ("__debug__" : Str)) = false) (he : starEach (e :: es) X.env = (false, eval e X.env) :: starEach es X.env) (hpl : (backTo pos (starEach es X.env)).any (·.1) = false) :
    PE X (.Call (.Name x p) (e :: es) [] pos) (tMakeS C sp dvs E t) := by
  refine ⟨fun pins s σ H Q I h => ?_⟩
  refine wpAny_Call_Name_kw (ld_glob I hg hm ?_ hdb)
  refine PySem.W.callWith_K (h₀ := X.base) I.ok.mod.kin M.kp (thn (ha.run pos pins s σ H _ I h) fun us s1 ⟨vs, H1, I1, r, q⟩ => ⟨I1.kIn, ?_⟩) he hpl
  exact run_makeS M F hr hb hd (hx σ) I1 r q
end

/-! ### the promise of a def by its evaluation -/
def spM (k : Kx) (n : Nat) (m : List W → M W) : Sp := fun vs H Q E => vs.length = n ∧ ∃ ρ h ws, k.HR ρ h H ∧ k.RWs ρ H ws vs ∧ Tm k (fun cls d _ H' => E cls d H') [] ρ h H (m ws) fun ρ' _ H' w => ∀ v, k.RW ρ' H' w v → Q v H'
/-- f(..), dws: the defaults that fill up -/
def evCall (n : Nat) (m : List W → M W) (a : EL) (dws : List W) : EE := fun env => do let ws ← a env; if (ws ++ dws).length = n then m (ws ++ dws) else M.err
/-- C(..) -/
def evNew (c n : Nat) (m : List W → M W) (a : EL) (dws : List W) : EE := fun env => do
  let ws ← a env
  let s ← M.new (.ins c [])
  if ws.length + dws.length + 1 = n then do
    let r ← m (s :: (ws ++ dws))
    if isNon r then pure s else M.err
  else M.err
/-- o.m(..), o of the class c -/
def clsP (c : Nat) : W → P Unit
  | .ref i => P.ins i fun c' _ => P.iff (c' == c) (P.ok ())
  | _ => P.fail
def evMeth (c n : Nat) (m : List W → M W) (o : EE) (a : EL) (dws : List W) : EE := fun env => do
  let x ← o env
  let _ ← (clsP c x).up
  let ws ← a env
  if (x :: (ws ++ dws)).length = n then m (x :: (ws ++ dws)) else M.err
section
variable {X : Cx} {k : Kx} {Wx : WX}
theorem Tm.ite {α : Type} {c : Prop} [Decidable c] {σ : L2.St} {ρ : List Addr} {h : Hv} {H : Hp} {m : M α} {R : List Addr → Hv → Hp → α → Prop} (t : Tm k Wx σ ρ h H (if c then m else M.err) R) : c ∧ Tm k Wx σ ρ h H m R := by
  by_cases e : c
  · rw [if_pos e] at t; exact ⟨e, t⟩
  · rw [if_neg e] at t; exact False.elim t
theorem Tm.heap {α : Type} {σ : L2.St} {ρ : List Addr} {h : Hv} {H : Hp} {f : Hv → M α} {R : List Addr → Hv → Hp → α → Prop} (t : Tm k Wx σ ρ h H (M.heap >>= f) R) : Tm k Wx σ ρ h H (f h) R := t
theorem Tm.new {α : Type} {σ : L2.St} {ρ : List Addr} {h : Hv} {H : Hp} {o : O} {f : W → M α} {R : List Addr → Hv → Hp → α → Prop} (t : Tm k Wx σ ρ h H (M.new o >>= f) R) {p : Addr} {u : HO} (hr : k.HR ρ h H) (np : H p = none) (ho : RO k.T k.K k.ca (ρ ++ [p]) (upd H p u) p o) :
    Tm k Wx σ (ρ ++ [p]) (h ++ [o]) (upd H p u) (f (.ref h.length)) R := t.bind (ρ ++ [p]) (upd H p u) (hr.push np ho)
theorem c_call {n d : Nat} {m : List W → M W} {f : Addr} {fd : FuncData} {ps : List Str} {x : Str} {e : Expr} {es : List Expr} {a : EL} {p pos : Pos} {dws : List W} {dvs : List V} {ds : List Value} (tk : Takes X Wx)
    (F : FnOk X.prog X.w X.K X.mg X.base (CX X.prog X.w) d f fd ps (spM k n m)) (hr : Room d X.A) (hg : Gl X x) (hm : X.mg x = some (.ref f)) (hk : PySem.W.keepIn X.K (.ref f) = true) (hb : L2.Binds X.K fd ps ds) (hd : Vals dvs ds) (rd : ∀ ρ H, k.RWs ρ H dws dvs)
    (ha : PA X (e :: es) (tL k Wx a)) (hdb : (x == ("__debug__" : Str)) = false) (he : starEach (e :: es) X.env = (false, eval e X.env) :: starEach es X.env) (hpl : (backTo pos (starEach es X.env)).any (·.1) = false) :
    PE X (.Call (.Name x p) (e :: es) [] pos) (tE k Wx (evCall n m a dws)) := by
  refine (pe_callSD F hr hg hm hk hb hd (fun σ => passAt tk σ) ha hdb he hpl).imp fun σ H Q ⟨ρ, env, h, S, t⟩ => ⟨ρ, env, h, S, t.bind.mono fun ρ1 h1 H1 ws g1 t1 vs r => ?_⟩
  obtain ⟨c, t2⟩ := t1.ite
  have r2 := r.append (rd ρ1 H1)
  exact ⟨by rw [← r2.length]; exact c, ρ1, h1, _, g1.hr, r2, t2.wx fun _ _ _ z => z⟩
theorem c_call0 {n d : Nat} {m : List W → M W} {f : Addr} {fd : FuncData} {ps : List Str} {x : Str} {p pos : Pos} {dws : List W} {dvs : List V} {ds : List Value} (tk : Takes X Wx)
    (F : FnOk X.prog X.w X.K X.mg X.base (CX X.prog X.w) d f fd ps (spM k n m)) (hr : Room d X.A) (hg : Gl X x) (hm : X.mg x = some (.ref f)) (hk : PySem.W.keepIn X.K (.ref f) = true) (hb : L2.Binds X.K fd ps ds) (hd : Vals dvs ds) (rd : ∀ ρ H, k.RWs ρ H dws dvs)
    (hdb : (x == ("__debug__" : Str)) = false) : PE X (.Call (.Name x p) [] [] pos) (tE k Wx (evCall n m (evArgs []) dws)) := by
  refine (pe_call0S F hr hg hm hk hb hd (fun σ => passAt tk σ) hdb).imp fun σ H Q ⟨ρ, env, h, S, t⟩ => ?_
  obtain ⟨c, t2⟩ := (t.bind.pure S.hr).ite
  have r2 : k.RWs ρ H ([] ++ dws) ([] ++ dvs) := rd ρ H
  exact ⟨by rw [← r2.length]; exact c, ρ, h, _, S.hr, r2, t2.wx fun _ _ _ z => z⟩
/-- where a new instance's evaluation begins -/
theorem new_go {n c : Nat} {m : List W → M W} {f : Addr} {ws dws : List W} {vs dvs : List V} {σ : L2.St} {ρ : List Addr} {h : Hv} {H : Hp} {Q : VK} (hc : c < k.T.cn.length) (hr : k.HR ρ h H) (r : k.RWs ρ H ws vs) (rd : ∀ ρ H, k.RWs ρ H dws dvs)
    (t : Tm k Wx σ ρ h H (do
      let s ← M.new (.ins c [])
      if ws.length + dws.length + 1 = n then do
        let r ← m (s :: (ws ++ dws))
        if isNon r then pure s else M.err
      else M.err) fun ρ' _ H' w => ∀ v, k.RW ρ' H' w v → Q v H') (x dx : Addr) (nx : H x = none) (nd : H dx = none) (ne : dx ≠ x) :
    spM k n m (.ref x :: (vs ++ dvs)) (upd (upd H dx (.own x)) x (.ins (k.ca c) dx [])) (fun v H2 => v = .non ∧ Q (.ref x) H2) (WE Wx σ) := by
  have g1 : k.Go ρ H ρ h (upd H dx (.own x)) := hr.pushT nd
  have nx1 : upd H dx (.own x) x = none := by rw [upd_ne (Ne.symm ne)]; exact nx
  have g2 := g1.hr.push (p := x) (u := .ins (k.ca c) dx []) (o := .ins c []) nx1 ⟨hc, dx, [], upd_same, rfl, .nil⟩
  have g := g1.trans g2
  have t1 := t.bind _ _ g
  obtain ⟨cn, t2⟩ := t1.ite
  have hx : k.RW (ρ ++ [x]) (upd (upd H dx (.own x)) x (.ins (k.ca c) dx [])) (.ref h.length) (.ref x) := RW.last hr
  have rs : k.RWs (ρ ++ [x]) (upd (upd H dx (.own x)) x (.ins (k.ca c) dx [])) (.ref h.length :: (ws ++ dws)) (.ref x :: (vs ++ dvs)) := .cons hx ((g.rws hr r).append (rd _ _))
  refine ⟨?_, _, _, _, g.hr, rs, ?_⟩
  · rw [← rs.length, List.length_cons, List.length_append]; exact cn
  · refine Tm.mono (k := k) (Wx := fun cls d _ H' => Wx cls d σ H') (σ := []) (R := fun ρ' h' H' w => Tm k Wx σ ρ' h' H' (if isNon w then pure (.ref h.length) else M.err) fun ρ' _ H' w => ∀ v, k.RW ρ' H' w v → Q v H') ?_ fun ρ3 h3 H3 w g3 t3 v rv => ?_
    · exact t2.bind.wx fun _ _ _ z => z
    · cases w with
      | non => cases rv; exact ⟨rfl, t3.pure g3.hr _ (g3.rw g.hr hx)⟩
      | bl _ => exact False.elim t3
      | int _ => exact False.elim t3
      | str _ => exact False.elim t3
      | tup _ => exact False.elim t3
      | rol _ => exact False.elim t3
      | ref _ => exact False.elim t3
      | ty _ => exact False.elim t3
      | cls _ => exact False.elim t3
      | atm => exact False.elim t3
      | scr => exact False.elim t3
theorem c_new {n d c : Nat} {m : List W → M W} {f : Addr} {fd : FuncData} {ps : List Str} {x : Str} {e : Expr} {es : List Expr} {a : EL} {p pos : Pos} {dws : List W} {dvs : List V} {ds : List Value} (tk : Takes X Wx) (hc : c < k.T.cn.length)
    (M : Mk X.K (k.ca c) f) (F : FnOk X.prog X.w X.K X.mg X.base (CX X.prog X.w) d f fd ps (spM k n m)) (hr : Room (d + 1) X.A) (hg : Gl X x) (hm : X.mg x = some (.ref (k.ca c))) (hb : L2.Binds X.K fd ps ds) (hd : Vals dvs ds) (rd : ∀ ρ H, k.RWs ρ H dws dvs)
    (ha : PA X (e :: es) (tL k Wx a)) (hdb : (x == ("__debug__" : Str)) = false) (he : starEach (e :: es) X.env = (false, eval e X.env) :: starEach es X.env) (hpl : (backTo pos (starEach es X.env)).any (·.1) = false) :
    PE X (.Call (.Name x p) (e :: es) [] pos) (tE k Wx (evNew c n m a dws)) := by
  refine (pe_makeS M F hr hg hm hb hd (fun σ => passAt tk σ) ha hdb he hpl).imp fun σ H Q ⟨ρ, env, h, S, t⟩ => ⟨ρ, env, h, S, t.bind.mono fun ρ1 h1 H1 ws g1 t1 vs r x dx nx nd ne => ?_⟩
  exact new_go (f := f) hc g1.hr r rd t1 x dx nx nd ne
theorem no_lookup {x : Str} (hx : x ∉ k.T.nm) : ∀ {fs : List (Nat × W)} {fs' : List (Str × V)}, (fs.map fun p => k.T.nm[p.1]?) = fs'.map (fun p => some p.1) → fs'.lookup x = none
  | [], [], _ => rfl
  | [], _ :: _, e => by simp at e
  | _ :: _, [], e => by simp at e
  | (z1, w1) :: fs, (z2, v2) :: fs', e => by
    simp only [List.map_cons, List.cons.injEq] at e
    obtain ⟨e1, e2⟩ := e
    have b : (x == z2) = false := by
      have : x ≠ z2 := fun q => hx (by rw [q]; exact List.mem_of_getElem? e1)
      simpa using this
    rw [List.lookup_cons, b]
    exact no_lookup hx e2
theorem Tp.clsP {c : Nat} {ρ : List Addr} {h : Hv} {H : Hp} {w : W} {v : V} {R : List Addr → Hv → Hp → Unit → Prop} (hr : k.HR ρ h H) (t : Tp k ρ h H (clsP c w) R) (r : k.RW ρ H w v) :
    c < k.T.cn.length ∧ ∃ a dx fs' fs, v = .ref a ∧ H a = some (.ins (k.ca c) dx fs') ∧ ((fs : List (Nat × W)).map fun p => k.T.nm[p.1]?) = fs'.map (fun p => some p.1) ∧ R ρ h H () := by
  unfold Ev.clsP at t
  split at t
  · obtain ⟨c', fs, e, t⟩ := t.ins
    obtain ⟨q, t3⟩ := t.iff
    have ec : c' = c := by simpa using q
    subst ec
    obtain ⟨hc, a, dx, fs', rfl, _, q2, q3, q4⟩ := RW.inst hr r e
    exact ⟨hc, a, dx, fs', fs, rfl, q2, q3, t3.ok hr⟩
  · exact t.fail.elim
theorem c_meth {n d c : Nat} {m : List W → M W} {f : Addr} {fd : FuncData} {ps : List Str} {x : Str} {o e : Expr} {es : List Expr} {eo : EE} {a : EL} {apos pos : Pos} {dws : List W} {dvs : List V} {ds : List Value} {pl : Sem Bool} (tk : Takes X Wx) (hK : X.K = k.K) (C : Clss k)
    (hx : x ∉ k.T.nm) (hM : Meth X.K (k.ca c) x f) (F : FnOk X.prog X.w X.K X.mg X.base (CX X.prog X.w) d f fd ps (spM k n m)) (hr : Room d X.A) (hb : L2.Binds X.K fd ps ds) (hd : Vals dvs ds) (rd : ∀ ρ H, k.RWs ρ H dws dvs)
    (ho : PE X o (tE k Wx eo)) (ha : PA X (e :: es) (tL k Wx a)) (hc : c < k.T.cn.length)
    (hst : starEach (e :: es) X.env = (false, eval e X.env) :: starEach es X.env) (hpl : (backTo pos (starEach es X.env)).any (·.1) = false)
    (ht : eval (.Call (.Attribute o x apos) (e :: es) [] pos) X.env = (do
      let ov ← eval o X.env
      standAt apos.atName
      let (f, first) ← holding [ov] (getMethod ov x pl)
      callWith pos f first (backTo pos (starEach (e :: es) X.env)) (backToKw pos (keywordEach [] X.env)))) :
    PE X (.Call (.Attribute o x apos) (e :: es) [] pos) (tE k Wx (evMeth c n m eo a dws)) := by
  refine (pe_methS ho (by rw [hK]; exact C.cls c hc) hM F hr hb hd (fun σ => passAt tk σ) ha hst hpl ht).imp fun σ H Q ⟨ρ, env, h, S, t⟩ => ⟨ρ, env, h, S, t.bind.mono fun ρ1 h1 H1 w g1 t1 v r => ?_⟩
  obtain ⟨_, p, dx, fs', fs, rfl, q2, q3, t2⟩ := t1.bind.up.clsP g1.hr r
  refine ⟨p, dx, fs', rfl, q2, no_lookup hx q3, ρ1, env, h1, ⟨g1.hr, g1.en S.hr S.en⟩, t2.bind.mono fun ρ2 h2 H2 ws g2 t3 vs rs => ?_⟩
  obtain ⟨cn, t4⟩ := t3.ite
  have r2 : k.RWs ρ2 H2 (w :: (ws ++ dws)) (.ref p :: (vs ++ dvs)) := .cons (g2.rw g1.hr r) (rs.append (rd _ _))
  exact ⟨by rw [← r2.length]; exact cn, ρ2, h2, _, g2.hr, r2, t4.wx fun _ _ _ z => z⟩
theorem c_meth0 {n d c : Nat} {m : List W → M W} {f : Addr} {fd : FuncData} {ps : List Str} {x : Str} {o : Expr} {eo : EE} {apos pos : Pos} {dws : List W} {dvs : List V} {ds : List Value} {pl : Sem Bool} (tk : Takes X Wx) (hK : X.K = k.K) (C : Clss k)
    (hx : x ∉ k.T.nm) (hM : Meth X.K (k.ca c) x f) (F : FnOk X.prog X.w X.K X.mg X.base (CX X.prog X.w) d f fd ps (spM k n m)) (hr : Room d X.A) (hb : L2.Binds X.K fd ps ds) (hd : Vals dvs ds) (rd : ∀ ρ H, k.RWs ρ H dws dvs)
    (ho : PE X o (tE k Wx eo)) (hc : c < k.T.cn.length)
    (ht : eval (.Call (.Attribute o x apos) [] [] pos) X.env = (do
      let ov ← eval o X.env
      standAt apos.atName
      let (f, first) ← holding [ov] (getMethod ov x pl)
      callWith pos f first (backTo pos (starEach [] X.env)) (backToKw pos (keywordEach [] X.env)))) :
    PE X (.Call (.Attribute o x apos) [] [] pos) (tE k Wx (evMeth c n m eo (evArgs []) dws)) := by
  refine (pe_meth0S ho (by rw [hK]; exact C.cls c hc) hM F hr hb hd (fun σ => passAt tk σ) ht).imp fun σ H Q ⟨ρ, env, h, S, t⟩ => ⟨ρ, env, h, S, t.bind.mono fun ρ1 h1 H1 w g1 t1 v r => ?_⟩
  obtain ⟨_, p, dx, fs', fs, rfl, q2, q3, t2⟩ := t1.bind.up.clsP g1.hr r
  refine ⟨p, dx, fs', rfl, q2, no_lookup hx q3, ?_⟩
  obtain ⟨cn, t4⟩ := (t2.bind.pure g1.hr).ite
  have r2 : k.RWs ρ1 H1 (w :: ([] ++ dws)) (.ref p :: ([] ++ dvs)) := .cons r (rd _ _)
  exact ⟨by rw [← r2.length]; exact cn, ρ1, h1, _, g1.hr, r2, t4.wx fun _ _ _ z => z⟩
end
end
end Ev
set_option Elab.async false
set_option linter.all false
set_option maxRecDepth 100000
namespace Ev
open PySem L2
noncomputable section

/-- a statement's wish about exceptions does not hang on the slots -/
abbrev wS (Ws : XK) : WX := fun cls d _ H => Ws cls d H
def tS (k : Kx) (Ws : XK) (es : ES) : TS := fun D σ H => ∃ ρ env h, Sim k ρ env h σ H ∧ Tm k (wS Ws) σ ρ h H (es env) fun ρ' h' H' fl => FlOk k ρ' h' H' D fl
def flBelow (n : Nat) : Fl → Bool
  | .nx env => enBelow n env
  | .rt w => below n w
  | .bk env => enBelow n env
  | .ct env => enBelow n env
/-- a statement's garbage dropped -/
def trF (m : M Fl) : M Fl := fun h => (m h).bind fun fl h' => .ok fl (trim h.length (flBelow h.length fl) h')
def trB (m : M Bool) : M Bool := fun h => (m h).bind fun b h' => .ok b (trim h.length true h')
section
variable {k : Kx} {Ws : XK} {σ : St} {ρ ρ' : List Addr} {h : Hv} {H H' : Hp}
theorem enBelow_get {n : Nat} : ∀ {env : En} {i : Nat} {w : W}, enBelow n env = true → env[i]? = some (some w) → below n w = true
  | [], _, _, _, e => by simp at e
  | none :: r, 0, _, _, e => by simp at e
  | none :: r, i + 1, w, b, e => enBelow_get (env := r) (i := i) (by simpa [enBelow] using b) (by simpa using e)
  | some x :: r, 0, w, b, e => by
    have b' : (below n x && enBelow n r) = true := by simpa [enBelow] using b
    simp at e; subst e
    exact (Bool.and_eq_true_iff.mp b').1
  | some x :: r, i + 1, w, b, e => by
    have b' : (below n x && enBelow n r) = true := by simpa [enBelow] using b
    exact enBelow_get (env := r) (i := i) (Bool.and_eq_true_iff.mp b').2 (by simpa using e)
theorem EnR.cut {n : Nat} {env : En} (r : k.EnR ρ H env σ) (b : enBelow n env = true) : k.EnR (ρ.take n) H env σ :=
  ⟨r.len, fun i w e => let ⟨v, e1, q⟩ := r.val i w e; ⟨v, e1, q.cut (enBelow_get b e)⟩⟩
theorem FlOk.cut {n : Nat} {h' h'' : Hv} {D : Ends} {fl : Fl} (f : FlOk k (ρ.take n) h' H D fl) (b : flBelow n fl = true) : FlOk k ρ h'' H D fl := by
  cases fl with
  | nx env => exact fun σ r => f σ (EnR.cut r b)
  | rt w => exact fun v r => f v (RW.cut r b)
  | bk env => exact fun σ r => f σ (EnR.cut r b)
  | ct env => exact fun σ r => f σ (EnR.cut r b)
theorem Tm.trF {m : M Fl} {Wx : WX} {D : Ends} (hr : k.HR ρ h H) (t : Tm k Wx σ ρ h H (trF m) fun ρ' h' H' fl => FlOk k ρ' h' H' D fl) : Tm k Wx σ ρ h H m fun ρ' h' H' fl => FlOk k ρ' h' H' D fl := by
  refine TmR.mapOk (fun fl h1 t => ?_) (show TmR k Wx σ ρ H _ ((m h).bind fun fl h' => .ok fl (trim h.length (flBelow h.length fl) h')) from t)
  · unfold trim at t
    intro ρ1 H1 g
    by_cases c1 : h1.length ≤ h.length
    · rw [if_pos c1] at t; exact t ρ1 H1 g
    · rw [if_neg c1] at t
      by_cases c2 : (flBelow h.length fl && (h1.take h.length).all (O.below h.length)) = true
      · rw [if_pos c2] at t
        obtain ⟨d1, d2⟩ := Bool.and_eq_true_iff.mp c2
        exact FlOk.cut (t _ _ (g.cut hr d2)) d1
      · rw [if_neg c2] at t; exact t ρ1 H1 g
theorem Tm.trB {m : M Bool} {Wx : WX} {R : Hp → Bool → Prop} (hr : k.HR ρ h H) (t : Tm k Wx σ ρ h H (trB m) fun _ _ H' b => R H' b) : Tm k Wx σ ρ h H m fun _ _ H' b => R H' b := by
  refine TmR.mapOk (fun fl h1 t => ?_) (show TmR k Wx σ ρ H _ ((m h).bind fun b h' => .ok b (trim h.length true h')) from t)
  · unfold trim at t
    intro ρ1 H1 g
    by_cases c1 : h1.length ≤ h.length
    · rw [if_pos c1] at t; exact t ρ1 H1 g
    · rw [if_neg c1] at t
      by_cases c2 : (true && (h1.take h.length).all (O.below h.length)) = true
      · rw [if_pos c2] at t
        obtain ⟨d1, d2⟩ := Bool.and_eq_true_iff.mp c2
        exact t _ _ (g.cut hr d2)
      · rw [if_neg c2] at t; exact t ρ1 H1 g
theorem EnR.set {env : En} (r : k.EnR ρ H env σ) {i : Nat} {w : W} {v : V} (q : k.RW ρ H w v) : k.EnR ρ H (env.set i (some w)) (σ.set i (some v)) := by
  refine ⟨by rw [List.length_set, List.length_set]; exact r.len, fun j u e => ?_⟩
  by_cases hj : i = j
  · subst hj
    have hi : i < env.length := by
      have := (List.getElem?_eq_some_iff.mp e).1
      rwa [List.length_set] at this
    rw [List.getElem?_set_self hi] at e
    cases e
    exact ⟨v, by rw [List.getElem?_set_self (by rw [← r.len]; exact hi)], q⟩
  · rw [List.getElem?_set_ne hj] at e
    obtain ⟨v', e1, q1⟩ := r.val j u e
    exact ⟨v', by rw [List.getElem?_set_ne hj]; exact e1, q1⟩
end
/-! ### small statements -/
def sPass : ES := fun env => pure (.nx env)
def sBrk : ES := fun env => pure (.bk env)
def sCnt : ES := fun env => pure (.ct env)
def sSeq (a b : ES) : ES := fun env => do let f ← a env; match f with
  | .nx env' => b env'
  | f => pure f
def sExpr (e : EE) : ES := fun env => trF do let _ ← e env; pure (.nx env)
def sRet (e : EE) : ES := fun env => do let w ← e env; pure (.rt w)
def sRetN : ES := fun _ => pure (.rt .non)
def sIf (c : ET) (a b : ES) : ES := fun env => do let t ← trB (c env); match t with
  | true => a env
  | false => b env
/-- targets: names and tuples of such -/
structure TgE where
  st : W → En → Option En
  sl : List Nat
def gN (i : Nat) : TgE := ⟨fun w env => some (env.set i (some w)), [i]⟩
def gNs : List TgE → List W → En → Option En
  | [], [], env => some env
  | g :: gs, w :: ws, env => (g.st w env).bind fun env' => gNs gs ws env'
  | _, _, _ => none
def gT (gs : List TgE) : TgE := ⟨fun w env => match w with
  | .tup xs => gNs gs xs env
  | _ => none, gs.flatMap (·.sl)⟩
def sAsg (g : TgE) (e : EE) : ES := fun env => trF do let w ← e env; let env' ← M.of (g.st w env); pure (.nx env')
/-- alike but at these slots -/
def Off (sl : List Nat) (σ σ' : L2.St) : Prop := σ'.length = σ.length ∧ ∀ j, j ∉ sl → σ'[j]? = σ[j]?
/-- a, b = x, y of plain names -/
def sPar (is : List Nat) (a : EL) : ES := fun env => trF do let ws ← a env; if ws.length = is.length then pure (.nx ((is.zip ws).foldl (fun env p => env.set p.1 (some p.2)) env)) else M.err
def putFW (f : Nat) (w : W) : List (Nat × W) → List (Nat × W)
  | [] => [(f, w)]
  | (g, x) :: r => if g = f then (g, w) :: r else (g, x) :: putFW f w r
def setFP (f : Nat) (o w : W) : P W := match o with
  | .ref i => P.ins i fun c fs => P.iff (decide (fs.length < 1000)) (P.put i (.ins c (putFW f w fs)) .non)
  | _ => P.fail
/-- o.f = e -/
def sFldW (f : Nat) (o e : EE) : ES := fun env => trF do let w ← e env; let x ← o env; let _ ← (setFP f x w).up; pure (.nx env)
section
variable {X : Cx} {k : Kx} {Ws : XK}
theorem d_pass {pos : Pos} : PS X (.Pass pos) (tS k Ws sPass) := ps_pass.imp fun D σ H ⟨ρ, env, h, S, t⟩ => t.pure S.hr σ S.en
theorem d_brk {pos : Pos} : PS X (.Break pos) (tS k Ws sBrk) := ps_break.imp fun D σ H ⟨ρ, env, h, S, t⟩ => t.pure S.hr σ S.en
theorem d_cnt {pos : Pos} : PS X (.Continue pos) (tS k Ws sCnt) := ps_continue.imp fun D σ H ⟨ρ, env, h, S, t⟩ => t.pure S.hr σ S.en
theorem d_nil : PSs X [] (tS k Ws sPass) := pss_nil.imp fun D σ H ⟨ρ, env, h, S, t⟩ => t.pure S.hr σ S.en
/-- a wish is not moved by slots -/
theorem Tm.sl {α : Type} {σ σ' : St} {ρ : List Addr} {h : Hv} {H : Hp} {m : M α} {R : List Addr → Hv → Hp → α → Prop} (t : Tm k (wS Ws) σ ρ h H m R) : Tm k (wS Ws) σ' ρ h H m R := t.wx fun _ _ _ z => z
theorem d_cons {st : Stmt} {rest : List Stmt} {a b : ES} (h1 : PS X st (tS k Ws a)) (h2 : PSs X rest (tS k Ws b)) : PSs X (st :: rest) (tS k Ws (sSeq a b)) := by
  refine (pss_cons h1 h2).imp fun D σ H ⟨ρ, env, h, S, t⟩ => ⟨ρ, env, h, S, t.bind.mono fun ρ1 h1 H1 fl g1 t1 => ?_⟩
  cases fl with
  | nx env' => exact fun σ' r => ⟨ρ1, env', h1, ⟨g1.hr, r⟩, t1.sl⟩
  | rt w => exact fun v r => t1.pure g1.hr v r
  | bk env' => exact fun σ' r => t1.pure g1.hr σ' r
  | ct env' => exact fun σ' r => t1.pure g1.hr σ' r
theorem d_expr {e : Expr} {ea : EE} {pos : Pos} (he : PE X e (tE k (wS Ws) ea)) (hs : swapsWith e none pos.line X.env = pure false) : PS X (.Expr e pos) (tS k Ws (sExpr ea)) := by
  refine (ps_expr he hs).imp fun D σ H ⟨ρ, env, h, S, t⟩ => ⟨ρ, env, h, S, (Tm.trF S.hr t).bind.mono fun ρ1 h1 H1 w g1 t1 v r => ?_⟩
  exact t1.pure g1.hr σ (g1.en S.hr S.en)
theorem d_doc {x : Str} {j : Nat} {pos pos' : Pos} : PS X (.Expr (.Constant (.str x) j pos) pos') (tS k Ws sPass) := ps_doc.imp fun D σ H ⟨ρ, env, h, S, t⟩ => t.pure S.hr σ S.en
theorem d_ret {e : Expr} {ea : EE} {pos : Pos} (he : PE X e (tE k (wS Ws) ea)) : PS X (.Return (some e) pos) (tS k Ws (sRet ea)) :=
  (ps_ret he).imp fun D σ H ⟨ρ, env, h, S, t⟩ => ⟨ρ, env, h, S, t.bind.mono fun ρ1 h1 H1 w g1 t1 v r => t1.pure g1.hr v r⟩
theorem d_retN {pos : Pos} : PS X (.Return none pos) (tS k Ws sRetN) := ps_retN.imp fun D σ H ⟨ρ, env, h, S, t⟩ => t.pure S.hr _ .non
theorem d_if {c : Expr} {a b : List Stmt} {ec : ET} {ea eb : ES} {pos : Pos} (hc : PT X c (tT k (wS Ws) ec)) (ha : PSs X a (tS k Ws ea)) (hb : PSs X b (tS k Ws eb)) : PS X (.If c a b pos) (tS k Ws (sIf ec ea eb)) := by
  refine (ps_if hc ha hb).imp fun D σ H ⟨ρ, env, h, S, t⟩ => ?_
  -- the test's garbage is dropped in the evaluation alone: what follows stands at the smaller heap
  refine ⟨ρ, env, h, S, ?_⟩
  have t1 := t.bind
  refine Tm.trB (R := fun H' d => if d = true then tS k Ws ea D σ H' else tS k Ws eb D σ H') S.hr (t1.mono fun ρ1 h1 H1 d g1 t2 => ?_)
  have en1 := g1.en S.hr S.en
  cases d with
  | true => exact ⟨ρ1, env, h1, ⟨g1.hr, en1⟩, t2⟩
  | false => exact ⟨ρ1, env, h1, ⟨g1.hr, en1⟩, t2⟩
/-! ### targets -/
def tG (k : Kx) (g : TgE) : TG := fun v σ H Q => ∃ ρ env h w env', Sim k ρ env h σ H ∧ k.RW ρ H w v ∧ g.st w env = some env' ∧ ∀ σ', k.EnR ρ H env' σ' → Off g.sl σ σ' → Q σ' H
def tGs (k : Kx) (gs : List TgE) : TGs := fun vs σ H Q => ∃ ρ env h ws env', Sim k ρ env h σ H ∧ k.RWs ρ H ws vs ∧ gNs gs ws env = some env' ∧ ∀ σ', k.EnR ρ H env' σ' → Off (gs.flatMap (·.sl)) σ σ' → Q σ' H
theorem _root_.L2.PG.imp {e : Expr} {t t' : TG} (p : PG X e t) (f : ∀ v σ H Q, t' v σ H Q → t v σ H Q) : PG X e t' := ⟨fun pins s σ H v u Q I r h => p.run pins s σ H v u Q I r (f v σ H Q h)⟩
theorem _root_.L2.PGs.imp {e : List Expr} {t t' : TGs} (p : PGs X e t) (f : ∀ v σ H Q, t' v σ H Q → t v σ H Q) : PGs X e t' := ⟨fun pins s σ H v u Q I r h => p.run pins s σ H v u Q I r (f v σ H Q h)⟩
theorem g_name {i : Nat} {x : Str} {pos : Pos} (hN : X.N.Nodup) (hi : X.N[i]? = some x) (hx : Loc X.env.scope x) (hf : X.fn x = true ∨ X.env.scope.names.lookup x = some .local) : PG X (.Name x pos) (tG k (gN i)) :=
  (pg_name hN hi hx hf).imp fun v σ H Q ⟨ρ, env, h, w, env', S, r, e, q⟩ => by
    cases e
    exact q _ (EnR.set S.en r) ⟨List.length_set, fun j hj => List.getElem?_set_ne (fun z => hj (by rw [← z]; exact List.mem_singleton.mpr rfl))⟩
theorem g_nil : PGs X [] (tGs k []) := pgs_nil.imp fun vs σ H Q ⟨ρ, env, h, ws, env', S, r, e, q⟩ => by
  cases ws with
  | nil => cases r; cases e; exact ⟨rfl, q _ S.en ⟨rfl, fun _ _ => rfl⟩⟩
  | cons _ _ => cases e
theorem g_cons {e : Expr} {es : List Expr} {g : TgE} {gs : List TgE} (h1 : PG X e (tG k g)) (h2 : PGs X es (tGs k gs)) (hs : (assignEach (e :: es) X.env).map (·.2) = assign e X.env :: (assignEach es X.env).map (·.2)) : PGs X (e :: es) (tGs k (g :: gs)) :=
  (pgs_cons h1 h2 hs).imp fun vs σ H Q ⟨ρ, env, h, ws, env', S, r, e, q⟩ => by
    cases ws with
    | nil => cases e
    | cons w ws =>
      cases r with
      | cons r1 rs =>
        simp only [gNs, Option.bind_eq_some_iff] at e
        obtain ⟨env1, e1, e2⟩ := e
        refine ⟨_, _, rfl, ρ, env, h, w, env1, S, r1, e1, fun σ1 en1 o1 => ⟨ρ, env1, h, ws, env', ⟨S.hr, en1⟩, rs, e2, fun σ2 en2 o2 => q σ2 en2 ⟨o2.1.trans o1.1, fun j hj => ?_⟩⟩⟩
        rw [List.flatMap_cons, List.mem_append, not_or] at hj
        rw [o2.2 j hj.2, o1.2 j hj.1]
theorem gNs_len : ∀ {gs : List TgE} {ws : List W} {env env' : En}, gNs gs ws env = some env' → ws.length = gs.length
  | [], [], _, _, _ => rfl
  | [], _ :: _, _, _, e => by cases e
  | _ :: _, [], _, _, e => by cases e
  | g :: gs, w :: ws, env, env', e => by
    simp only [gNs, Option.bind_eq_some_iff] at e
    obtain ⟨_, _, e2⟩ := e
    simp [gNs_len e2]
theorem g_tup {es : List Expr} {gs : List TgE} {kk : Nat} {pos : Pos} (hc : X.calm = true) (hK : X.K = k.K) (h : PGs X es (tGs k gs)) (hn : (assignEach es X.env).length = gs.length) (hst : (assignEach es X.env).findIdx? (·.1) = none) : PG X (.Tuple es kk pos) (tG k (gT gs)) :=
  (pg_tup hc h hn hst).imp fun v σ H Q ⟨ρ, env, h, w, env', S, r, e, q⟩ => by
    unfold gT at e
    dsimp only at e
    split at e
    · cases r with
      | tup st z => exact ⟨_, _, rfl, by rw [hK]; exact st, by rw [← z.length]; exact gNs_len e, ρ, env, h, _, env', S, z, e, q⟩
    · cases e
theorem d_asg {tg e : Expr} {ea : EE} {g : TgE} {pos : Pos} (he : PE X e (tE k (wS Ws) ea)) (hg : PG X tg (tG k g)) (hs : swapsWithSole [tg] e pos.line X.env = pure false) (hw : swappedStores [tg] e X.env = pure none)
    (h1 : (assignEach [tg] X.env).map (·.2) = [assign tg X.env]) : PS X (.Assign [tg] e pos) (tS k Ws (sAsg g ea)) := by
  refine (ps_asg he hg hs hw h1).imp fun D σ H ⟨ρ, env, h, S, t⟩ => ⟨ρ, env, h, S, (Tm.trF S.hr t).bind.mono fun ρ1 h1 H1 w g1 t1 v r => ?_⟩
  unfold M.of at t1
  cases q : g.st w env with
  | none => rw [q] at t1; exact False.elim t1
  | some env' =>
    rw [q] at t1
    exact ⟨ρ1, env, h1, w, env', ⟨g1.hr, g1.en S.hr S.en⟩, r, q, fun σ' en' _ => Tm.pure g1.hr t1 σ' en'⟩
theorem d_set {i : Nat} {x : Str} {e : Expr} {ea : EE} {pos' pos : Pos} (hN : X.N.Nodup) (hi : X.N[i]? = some x) (hx : Loc X.env.scope x) (he : PE X e (tE k (wS Ws) ea)) (hs : swapsWith e (some (.Name x pos')) pos.line X.env = pure false) (hf : X.fn x = true ∨ X.env.scope.names.lookup x = some .local) :
    PS X (.Assign [.Name x pos'] e pos) (tS k Ws (sAsg (gN i) ea)) := by
  refine (ps_set hN hi hx he hs hf).imp fun D σ H ⟨ρ, env, h, S, t⟩ => ⟨ρ, env, h, S, (Tm.trF S.hr t).bind.mono fun ρ1 h1 H1 w g1 t1 v r => ?_⟩
  exact Tm.pure g1.hr t1 _ (EnR.set (g1.en S.hr S.en) r)
theorem put_fs {ρ : List Addr} {H : Hp} (nd : k.T.nm.Nodup) {f : Nat} {x : Str} (hx : k.T.nm[f]? = some x) {w : W} {v : V} (r : k.RW ρ H w v) : ∀ {fs : List (Nat × W)} {fs' : List (Str × V)}, (fs.map fun p => k.T.nm[p.1]?) = fs'.map (fun p => some p.1) → k.RWs ρ H (fs.map (·.2)) (fs'.map (·.2)) →
    ((putFW f w fs).map fun p => k.T.nm[p.1]?) = (putF x v fs').map (fun p => some p.1) ∧ k.RWs ρ H ((putFW f w fs).map (·.2)) ((putF x v fs').map (·.2))
  | [], [], _, _ => ⟨by simp [putFW, putF, hx], .cons r .nil⟩
  | [], _ :: _, e, _ => by simp at e
  | _ :: _, [], e, _ => by simp at e
  | (z1, w1) :: fs, (z2, v2) :: fs', e, s => by
    simp only [List.map_cons, List.cons.injEq] at e
    obtain ⟨e1, e2⟩ := e
    cases s with
    | cons r1 s =>
      by_cases hz : z1 = f
      · subst hz
        rw [hx] at e1
        cases e1
        refine ⟨?_, ?_⟩
        · simp only [putFW, putF, if_true, List.map_cons, hx, e2]
        · simp only [putFW, putF, if_true, List.map_cons]
          exact .cons r s
      · have hzz : z2 ≠ x := fun q => by
          subst q
          obtain ⟨h1, q1⟩ := List.getElem?_eq_some_iff.mp hx
          obtain ⟨h2, q2⟩ := List.getElem?_eq_some_iff.mp e1
          exact hz ((List.getElem_inj nd).mp (q2.trans q1.symm))
        obtain ⟨i1, i2⟩ := put_fs nd hx r e2 s
        refine ⟨?_, ?_⟩
        · simp only [putFW, putF, if_neg hz, if_neg hzz, List.map_cons, i1, e1]
        · simp only [putFW, putF, if_neg hz, if_neg hzz, List.map_cons]
          exact .cons r1 i2
theorem d_fld {o e : Expr} {eo ea : EE} {f : Nat} {x : Str} {pos' pos : Pos} (C : Clss k) (hK : X.K = k.K) (hx : k.T.nm[f]? = some x) (ho : PE X o (tE k (wS Ws) eo)) (he : PE X e (tE k (wS Ws) ea)) (hs : swapsWith e (some (.Attribute o x pos')) pos.line X.env = pure false) :
    PS X (.Assign [.Attribute o x pos'] e pos) (tS k Ws (sFldW f eo ea)) := by
  refine (ps_fld ho he hs).imp fun D σ H ⟨ρ, env, h, S, t⟩ => ⟨ρ, env, h, S, (Tm.trF S.hr t).bind.mono fun ρ1 h1 H1 w g1 t1 v r => ?_⟩
  have en1 := g1.en S.hr S.en
  refine ⟨ρ1, env, h1, ⟨g1.hr, en1⟩, t1.bind.mono fun ρ2 h2 H2 wo g2 t2 vo ro => ?_⟩
  have en2 := g2.en g1.hr en1
  have t3 := t2.bind.up
  unfold setFP at t3
  split at t3
  · obtain ⟨c, fs, e1, t3⟩ := t3.ins
    obtain ⟨c1, t3⟩ := t3.iff
    obtain ⟨hc, a, dx, fs', rfl, ea, q2, q3, q4⟩ := RW.inst g2.hr ro e1
    have hl : fs'.length = fs.length := by simpa using (congrArg List.length q3).symm
    refine ⟨a, _, dx, fs', rfl, q2, by rw [hK]; exact C.cls c hc, by rw [hK]; exact C.noat c hc f x hx, by rw [hl]; exact of_decide_eq_true c1, ?_⟩
    have fr : Fr ρ2 H2 (upd H2 a (.ins (k.ca c) dx (putF x v fs'))) := fun b ob eb hb => by
      have nb : b ≠ a := fun z => hb (by rw [z]; exact List.mem_of_getElem? ea)
      rw [upd_ne nb]; exact eb
    obtain ⟨i1, i2⟩ := put_fs C.nd hx (g2.rw g1.hr r) q3 q4
    have g3 := g2.hr.put ea (u := .ins (k.ca c) dx (putF x v fs')) (o := .ins c (putFW f w fs)) ⟨hc, dx, _, upd_same, i1, g2.hr.rws fr (fun _ _ e => e) i2⟩
    have t4 := t3 _ _ g3
    exact Tm.pure g3.hr t4 σ (g3.en g2.hr en2)
  · exact t3.fail.elim
end
end
end Ev
set_option Elab.async false
set_option linter.all false
set_option maxRecDepth 100000
namespace Ev
open PySem L2
noncomputable section

/-! ### while -/
def whl (c : ET) (b : ES) : Nat → ES
  | 0 => fun _ => M.err
  | n + 1 => fun env => do
    let t ← trB (c env)
    match t with
    | false => pure (.nx env)
    | true => do
      let f ← b env
      match f with
      | .nx e => whl c b n e
      | .ct e => whl c b n e
      | .bk e => pure (.nx e)
      | .rt w => pure (.rt w)
section
variable {X : Cx} {k : Kx} {Ws : XK}
theorem d_while {c : Expr} {body : List Stmt} {ec : ET} {eb : ES} {pos : Pos} (fuel : Nat) (hp : PassesOwn (model X.prog X.w) X.A X.env X.xe) (hc : PT X c (tT k (wS Ws) ec)) (hb : PSs X body (tS k Ws eb)) : PS X (.While c body [] pos) (tS k Ws (whl ec eb fuel)) := by
  refine (ps_while hp hc hb).imp fun D σ H ⟨ρ, env, h, S, t⟩ => ?_
  refine ⟨fun m σ H => ∃ ρ env h, Sim k ρ env h σ H ∧ Tm k (wS Ws) σ ρ h H (whl ec eb m env) fun ρ' h' H' fl => FlOk k ρ' h' H' D fl, ⟨fuel, ρ, env, h, S, t⟩, fun m σ H ⟨ρ, env, h, S, t⟩ => ?_⟩
  cases m with
  | zero => exact False.elim t
  | succ m =>
    refine ⟨ρ, env, h, S, ?_⟩
    have t1 := t.bind
    refine Tm.trB (R := fun H1 b => if b = true then ∃ N : St → Hp → Prop, (∀ σ' H', N σ' H' → ∃ m', m' < m + 1 ∧ ∃ ρ env h, Sim k ρ env h σ' H' ∧ Tm k (wS Ws) σ' ρ h H' (whl ec eb m' env) fun ρ' h' H' fl => FlOk k ρ' h' H' D fl) ∧ tS k Ws eb { D with nx := N, ct := N, bk := D.nx } σ H1 else D.nx σ H1) S.hr (t1.mono fun ρ1 h1 H1 d g1 t2 => ?_)
    have en1 := g1.en S.hr S.en
    cases d with
    | false => exact t2.pure g1.hr σ en1
    | true =>
      refine ⟨fun σ' H' => ∃ ρ env h, Sim k ρ env h σ' H' ∧ Tm k (wS Ws) σ' ρ h H' (whl ec eb m env) fun ρ' h' H' fl => FlOk k ρ' h' H' D fl, fun σ' H' q => ⟨m, Nat.lt_succ_self m, q⟩, ρ1, env, h1, ⟨g1.hr, en1⟩, t2.bind.mono fun ρ2 h2 H2 fl g2 t3 => ?_⟩
      cases fl with
      | nx e => exact fun σ' r => ⟨ρ2, e, h2, ⟨g2.hr, r⟩, t3.sl⟩
      | ct e => exact fun σ' r => ⟨ρ2, e, h2, ⟨g2.hr, r⟩, t3.sl⟩
      | bk e => exact fun σ' r => t3.pure g2.hr σ' r
      | rt w => exact fun v r => t3.pure g2.hr v r
end

/-! ### what a loop walks -/
/-- at turn i: none: it can't be told; some none: it stops -/
abbrev Src := Nat → Hv → Option (Option W)
structure SrcR (k : Kx) (ρ0 : List Addr) (H0 : Hp) (J : It) (s : Src) : Prop where
  go : ∀ ρ h H, k.Go ρ0 H0 ρ h H → ∀ i w, s i h = some (some w) → J.go i H ∧ ∀ x H', J.yld i H x H' → k.Go ρ H ρ h H' ∧ k.RW ρ H' w x
  stop : ∀ ρ h H, k.Go ρ0 H0 ρ h H → ∀ i, s i h = some none → J.stop i H
def tI (k : Kx) (Wx : WX) (si : En → M (Src × Nat)) : TI := fun σ H R => ∃ ρ env h, Sim k ρ env h σ H ∧ Tm k Wx σ ρ h H (si env) fun ρ' _ H' s => ∀ J, SrcR k ρ' H' J s.1 → R J H'
/-- the source, if the value is a list, a tuple, a text -/
def srcP : W → P (Src × Nat)
  | .tup xs => P.ok (fun i _ => some xs[i]?, xs.length + 1)
  | .rol xs => P.ok (fun i _ => some xs[i]?, xs.length + 1)
  | .str x => P.ok (fun i _ => some (x[i]?.map fun c => .str [c]), x.length + 1)
  | .ref n => P.lst n fun xs => P.ok (fun i h => match h[n]? with
    | some (.lst ys) => some ys[i]?
    | _ => none, xs.length + 1)
  | _ => P.fail
def evIter (e : EE) : En → M (Src × Nat) := fun env => do let w ← e env; (srcP w).up
section
variable {X : Cx} {k : Kx} {Wx : WX}
theorem _root_.L2.PI.imp {tg e : Expr} {t t' : TI} (p : PI X tg e t) (f : ∀ σ H R, t' σ H R → t σ H R) : PI X tg e t' := ⟨fun pins s σ H R I h => p.run pins s σ H R I (f σ H R h)⟩
/-- over a list, a tuple or a text -/
def iAny (K : PySem.W.Frag) (tl : TE) : TI := fun σ H R => tl σ H fun x H1 => (∃ a, x = .ref a ∧ (∃ xs, SqL K H1 a xs) ∧ R (Itl K a) H1) ∨ (∃ a, x = .ref a ∧ (∃ xs, SqT K H1 a xs) ∧ R (Itt K a) H1) ∨ ∃ z, x = .str z ∧ R (Its z) H1
theorem pi_any {tg l : Expr} {tl : TE} (hl : PE X l tl) : PI X tg l (iAny X.K tl) := by
  refine ⟨fun pins s σ H R I h => ?_⟩
  refine thn (hl.run pins s σ H _ I h) fun v s1 ⟨x, H1, I1, r1, q1⟩ => ?_
  rcases q1 with ⟨a, e, ⟨xs, hq⟩, q⟩ | ⟨a, e, ⟨xs, hq⟩, q⟩ | ⟨z, e, q⟩
  · subst e
    cases r1
    obtain ⟨its, rv, p, hz⟩ := I1.list hq
    refine wpAny_pyIter_list p.isList ?_
    refine ⟨s1.heap.objs.size, [s1.heap.objs.size], _, _, H1, rfl, I1.kept (t' := s1.toks) fun b o e => Heap.get?_push_of_some _ e, turn_list a _, ⟨_, Heap.get?_push_size _ rfl, rfl, rfl⟩, fun b hb => ?_, q⟩
    have e : b = s1.heap.objs.size := by simpa using hb
    subst e
    exact I1.fpOk (Nat.le_refl _) (I1.hok.fresh (Nat.le_refl _))
  · subst e
    cases r1
    obtain ⟨its, rv, p, hz⟩ := I1.tuple hq
    refine wpAny_pyIter_tuple (show s1.heap.IsTuple a its.toArray from p) ?_
    refine ⟨s1.heap.objs.size, [s1.heap.objs.size], _, _, H1, rfl, I1.kept (t' := s1.toks) fun b o e => Heap.get?_push_of_some _ e, turn_tuple a _, ⟨_, Heap.get?_push_size _ rfl, rfl, rfl⟩, fun b hb => ?_, q⟩
    have e : b = s1.heap.objs.size := by simpa using hb
    subst e
    exact I1.fpOk (Nat.le_refl _) (I1.hok.fresh (Nat.le_refl _))
  · subst e
    obtain ⟨t, rfl⟩ := r1
    cases ha : z.cps.all (· < 128)
    · exact wpAny_pyIter_wide ha (pi_one (tk := s1.toks) I1 _ (turn_str _ z t "str_iterator" (.inr rfl)) ⟨_, Heap.get?_push_size _ rfl, rfl, rfl⟩ q)
    · exact wpAny_pyIter_ascii ha (pi_one (tk := s1.toks) I1 _ (turn_str _ z t "str_ascii_iterator" (.inl rfl)) ⟨_, Heap.get?_push_size _ rfl, rfl, rfl⟩ q)
theorem c_iter {tg e : Expr} {ea : EE} (hK : X.K = k.K) (he : PE X e (tE k Wx ea)) : PI X tg e (tI k Wx (evIter ea)) := by
  refine (pi_any he).imp fun σ H R ⟨ρ, env, h, S, t⟩ => ⟨ρ, env, h, S, t.bind.mono fun ρ1 h1 H1 w g1 t1 v r => ?_⟩
  have t2 := t1.up
  unfold srcP at t2
  split at t2
  · cases r with
    | tup st z =>
      refine .inr (.inl ⟨_, rfl, ⟨_, by rw [hK]; exact st⟩, t2.ok g1.hr _ ⟨fun ρ h H g i w e => ?_, fun ρ h H g i e => ?_⟩⟩)
      · obtain ⟨v, ev, rv⟩ := z.get (Option.some.inj e)
        have st' := g1.hr.sqT g.frame st
        rw [← hK] at st'
        refine ⟨⟨_, v, st', ev⟩, fun x H' ⟨eH, q⟩ => ?_⟩
        subst eH
        have q1 := q _ st'
        rw [ev] at q1; cases q1
        exact ⟨Go.refl g.hr, g.rw g1.hr rv⟩
      · have st' := g1.hr.sqT g.frame st
        rw [← hK] at st'
        refine ⟨_, st', ?_⟩
        rw [← z.length]
        exact List.getElem?_eq_none_iff.mp (Option.some.inj e)
  · cases r with
    | rol st z =>
      refine .inl ⟨_, rfl, ⟨_, by rw [hK]; exact st.sq⟩, t2.ok g1.hr _ ⟨fun ρ h H g i w e => ?_, fun ρ h H g i e => ?_⟩⟩
      · obtain ⟨v, ev, rv⟩ := z.get (Option.some.inj e)
        have st' := (g1.hr.roL g.frame st).sq
        rw [← hK] at st'
        refine ⟨⟨_, v, st', ev⟩, fun x H' ⟨eH, q⟩ => ?_⟩
        subst eH
        have q1 := q _ st'
        rw [ev] at q1; cases q1
        exact ⟨Go.refl g.hr, g.rw g1.hr rv⟩
      · have st' := (g1.hr.roL g.frame st).sq
        rw [← hK] at st'
        refine ⟨_, st', ?_⟩
        rw [← z.length]
        exact List.getElem?_eq_none_iff.mp (Option.some.inj e)
  · rename_i x
    cases r
    refine .inr (.inr ⟨_, rfl, t2.ok g1.hr _ ⟨fun ρ h H g i w e => ?_, fun ρ h H g i e => ?_⟩⟩)
    · have e1 := Option.some.inj e
      simp only [Option.map_eq_some_iff] at e1
      obtain ⟨c, ec, rfl⟩ := e1
      have hi := (List.getElem?_eq_some_iff.mp ec).1
      refine ⟨show i < (Ev.S x).cps.size by simpa [Ev.S] using hi, fun x' H' ⟨eH, c', ec', ex⟩ => ?_⟩
      subst eH
      have : c' = c := by
        have z : x[i]? = some c' := by simpa [Ev.S] using ec'
        rw [ec] at z; exact (Option.some.inj z).symm
      subst this
      subst ex
      exact ⟨Go.refl g.hr, .str [c']⟩
    · have e1 := Option.some.inj e
      simp only [Option.map_eq_none_iff] at e1
      have := List.getElem?_eq_none_iff.mp e1
      show (Ev.S x).cps.size ≤ i
      simpa [Ev.S] using this
  · rename_i n
    obtain ⟨xs, e1, t3⟩ := t2.lst
    obtain ⟨a, vs, rfl, ea, q2, z⟩ := RW.list g1.hr r e1
    refine .inl ⟨a, rfl, ⟨vs, SqL.of q2⟩, t3.ok g1.hr _ ⟨fun ρ h H g i w e => ?_, fun ρ h H g i e => ?_⟩⟩
    · dsimp only at e
      split at e
      · rename_i ys ey
        obtain ⟨us, hu, zu⟩ := g.hr.obj n a _ (g.up n a ea) ey
        obtain ⟨v, ev, rv⟩ := zu.get (Option.some.inj e)
        refine ⟨⟨us, v, SqL.of hu, ev⟩, fun x H' ⟨eH, q⟩ => ?_⟩
        subst eH
        have q1 := q us (SqL.of hu)
        rw [ev] at q1; cases q1
        exact ⟨Go.refl g.hr, rv⟩
      · cases e
    · dsimp only at e
      split at e
      · rename_i ys ey
        obtain ⟨us, hu, zu⟩ := g.hr.obj n a _ (g.up n a ea) ey
        refine ⟨us, SqL.of hu, ?_⟩
        rw [← zu.length]
        exact List.getElem?_eq_none_iff.mp (Option.some.inj e)
      · cases e
  · exact t2.fail.elim
/-! ### range, enumerate -/
def rngSrc (lo : Int) (n : Nat) : Src := fun i _ => if i < n then some (some (.int (lo + i))) else some none
def in62 (i : Int) : Bool := decide (-(2 ^ 62) ≤ i) && decide (i < 2 ^ 62)
def evSrc (f : List W → P (Src × Nat)) (a : EL) : En → M (Src × Nat) := fun env => do let ws ← a env; (f ws).up
theorem rng_src {ρ0 : List Addr} {H0 : Hp} (lo : Int) (n : Nat) : SrcR k ρ0 H0 (Itr lo n) (rngSrc lo n) := by
  refine ⟨fun ρ h H g i w e => ?_, fun ρ h H g i e => ?_⟩
  · unfold rngSrc at e
    split at e
    · rename_i c
      cases e
      refine ⟨c, fun x H' ⟨eH, ex⟩ => ?_⟩
      subst eH; subst ex
      exact ⟨Go.refl g.hr, .int _⟩
    · cases e
  · unfold rngSrc at e
    split at e
    · cases e
    · rename_i c; exact Nat.le_of_not_lt c
theorem in62_ok {i : Int} (h : in62 i = true) : -(2 ^ 62) ≤ i ∧ i < 2 ^ 62 := by
  obtain ⟨a, b⟩ := Bool.and_eq_true_iff.mp h
  exact ⟨of_decide_eq_true a, of_decide_eq_true b⟩
def rng1P : List W → P (Src × Nat)
  | [.int j] => P.iff (in62 j) (P.ok (rngSrc 0 j.toNat, j.toNat + 1))
  | _ => P.fail
def rng2P : List W → P (Src × Nat)
  | [.int i, .int j] => P.iff (in62 i && in62 j) (P.ok (rngSrc i (j - i).toNat, (j - i).toNat + 1))
  | _ => P.fail
theorem c_range1 {tg a : Expr} {ea : EL} {p pos : Pos} (hg : Gl X "range") (hm : X.mg "range" = none) (ha : PA X [a] (tL k Wx ea)) (hs : starEach [a] X.env = [(false, eval a X.env)]) : PI X tg (.Call (.Name "range" p) [a] [] pos) (tI k Wx (evSrc rng1P ea)) := by
  refine (pi_range1 hg hm ha hs).imp fun σ H R ⟨ρ, env, h, S, t⟩ => ⟨ρ, env, h, S, t.bind.mono fun ρ1 h1 H1 ws g1 t1 vs r => ?_⟩
  have t2 := t1.up
  unfold rng1P at t2
  split at t2
  · obtain ⟨v, rfl, r1⟩ := r.one
    obtain ⟨c, t3⟩ := t2.iff
    cases r1
    exact ⟨_, rfl, (in62_ok c).1, (in62_ok c).2, t3.ok g1.hr _ (rng_src _ _)⟩
  · exact t2.fail.elim
theorem c_range2 {tg a b : Expr} {ea : EL} {p pos : Pos} (hg : Gl X "range") (hm : X.mg "range" = none) (ha : PA X [a, b] (tL k Wx ea)) (hs : starEach [a, b] X.env = [(false, eval a X.env), (false, eval b X.env)]) (hs2 : starEach [b] X.env = [(false, eval b X.env)]) : PI X tg (.Call (.Name "range" p) [a, b] [] pos) (tI k Wx (evSrc rng2P ea)) := by
  refine (pi_range2 hg hm ha hs hs2).imp fun σ H R ⟨ρ, env, h, S, t⟩ => ⟨ρ, env, h, S, t.bind.mono fun ρ1 h1 H1 ws g1 t1 vs r => ?_⟩
  have t2 := t1.up
  unfold rng2P at t2
  split at t2
  · obtain ⟨v, u, rfl, r1, r2⟩ := r.two
    obtain ⟨c, t3⟩ := t2.iff
    obtain ⟨c1, c2⟩ := Bool.and_eq_true_iff.mp c
    cases r1; cases r2
    exact ⟨_, _, rfl, ⟨(in62_ok c1).1, (in62_ok c1).2, (in62_ok c2).1, (in62_ok c2).2⟩, t3.ok g1.hr _ (rng_src _ _)⟩
  · exact t2.fail.elim
/-- enumerate(list) -/
def enumP : List W → P (Src × Nat)
  | [.ref n] => P.lst n fun xs => P.ok (fun i h => match h[n]? with
    | some (.lst ys) => some (ys[i]?.map fun w => .tup [.int (i : Nat), w])
    | _ => none, xs.length + 1)
  | _ => P.fail
theorem c_enum {e : Expr} {ea : EL} {p pos tpos : Pos} {elts : List Expr} {kk : Nat} (hK : X.K = k.K) (hg : Gl X "enumerate") (hm : X.mg "enumerate" = none) (ha : PA X [e] (tL k Wx ea)) (hs : starEach [e] X.env = [(false, eval e X.env)]) :
    PI X (.Tuple elts kk tpos) (.Call (.Name "enumerate" p) [e] [] pos) (tI k Wx (evSrc enumP ea)) := by
  refine (pi_enum hg hm ha hs).imp fun σ H R ⟨ρ, env, h, S, t⟩ => ⟨ρ, env, h, S, t.bind.mono fun ρ1 h1 H1 ws g1 t1 vs r => ?_⟩
  have t2 := t1.up
  unfold enumP at t2
  split at t2
  · rename_i n
    obtain ⟨v, rfl, r1⟩ := r.one
    obtain ⟨xs, e1, t3⟩ := t2.lst
    obtain ⟨a, us, rfl, ea, q2, z⟩ := RW.list g1.hr r1 e1
    refine ⟨a, us, rfl, SqL.of q2, t3.ok g1.hr _ ⟨fun ρ h H g i w e => ?_, fun ρ h H g i e => ?_⟩⟩
    · dsimp only at e
      split at e
      · rename_i ys ey
        obtain ⟨us, hu, zu⟩ := g.hr.obj n a _ (g.up n a ea) ey
        have e2 := Option.some.inj e
        simp only [Option.map_eq_some_iff] at e2
        obtain ⟨w0, e2, rfl⟩ := e2
        obtain ⟨v, ev, rv⟩ := zu.get e2
        refine ⟨⟨us, v, SqL.of hu, ev⟩, fun x H' ⟨T, x0, ex, nT, eH, q⟩ => ?_⟩
        subst eH; subst ex
        have q1 := q us (SqL.of hu)
        rw [ev] at q1; cases q1
        exact ⟨g.hr.pushT nT, RW.newT g.hr nT (.cons (.int _) (.cons rv .nil))⟩
      · cases e
    · dsimp only at e
      split at e
      · rename_i ys ey
        obtain ⟨us, hu, zu⟩ := g.hr.obj n a _ (g.up n a ea) ey
        have e2 := Option.some.inj e
        simp only [Option.map_eq_none_iff] at e2
        refine ⟨us, SqL.of hu, ?_⟩
        rw [← zu.length]
        exact List.getElem?_eq_none_iff.mp e2
      · cases e
  · exact t2.fail.elim
end
end
end Ev
set_option Elab.async false
set_option linter.all false
set_option maxRecDepth 100000
namespace Ev
open PySem L2
noncomputable section

def forL (s : Src) (g : TgE) (b : ES) : Nat → Nat → ES
  | 0, _ => fun _ => M.err
  | n + 1, i => fun env => do
    let h ← M.heap
    match s i h with
    | none => M.err
    | some none => pure (.nx env)
    | some (some w) => do
      let env1 ← M.of (g.st w env)
      let f ← b env1
      match f with
      | .nx e => forL s g b n (i + 1) e
      | .ct e => forL s g b n (i + 1) e
      | .bk e => pure (.nx e)
      | .rt w => pure (.rt w)
def sFor (si : En → M (Src × Nat)) (g : TgE) (b : ES) : ES := fun env => trF do let s ← si env; forL s.1 g b s.2 0 env
section
variable {X : Cx} {k : Kx} {Ws : XK}
theorem Tm.of {α β : Type} {Wx : WX} {σ : St} {ρ : List Addr} {h : Hv} {H : Hp} {o : Option α} {f : α → M β} {R : List Addr → Hv → Hp → β → Prop} (t : Tm k Wx σ ρ h H (M.of o >>= f) R) : ∃ a, o = some a ∧ Tm k Wx σ ρ h H (f a) R := by
  cases o with
  | none => exact False.elim t
  | some a => exact ⟨a, rfl, t⟩
theorem d_for {tg iter : Expr} {body : List Stmt} {si : En → M (Src × Nat)} {g : TgE} {eb : ES} {pos : Pos} (hp : PassesOwn (model X.prog X.w) X.A X.env X.xe) (hc : X.calm = true) (hi : PI X tg iter (tI k (wS Ws) si)) (hg : PG X tg (tG k g)) (hb : PSs X body (tS k Ws eb))
    (hs : ∀ x, foldedSetIterable iter X.env x = pure x) : PS X (.For tg iter body [] pos) (tS k Ws (sFor si g eb)) := by
  refine (ps_for hp hc hi hg hb hs).imp fun D σ H ⟨ρ, env, h, S, t⟩ => ⟨ρ, env, h, S, (Tm.trF S.hr t).bind.mono fun ρ1 h1 H1 s g1 t1 J sr => ?_⟩
  let Inv' : Nat → Nat → St → Hp → Prop := fun i m σ H => ∃ ρ env h, k.Go ρ1 H1 ρ h H ∧ k.EnR ρ H env σ ∧ Tm k (wS Ws) σ ρ h H (forL s.1 g eb m i env) fun ρ' h' H' fl => FlOk k ρ' h' H' D fl
  refine ⟨Inv', ⟨s.2, ρ1, env, h1, Go.refl g1.hr, g1.en S.hr S.en, t1⟩, fun i m σ H ⟨ρ, env, h, g2, en, t⟩ => ?_⟩
  cases m with
  | zero => exact False.elim t
  | succ m =>
    have t2 : Tm k (wS Ws) σ ρ h H (match s.1 i h with
      | none => M.err
      | some none => pure (.nx env)
      | some (some w) => do
        let env1 ← M.of (g.st w env)
        let f ← eb env1
        match f with
        | .nx e => forL s.1 g eb m (i + 1) e
        | .ct e => forL s.1 g eb m (i + 1) e
        | .bk e => pure (.nx e)
        | .rt w => pure (.rt w)) fun ρ' h' H' fl => FlOk k ρ' h' H' D fl := t
    cases e : s.1 i h with
    | none => rw [e] at t2; exact False.elim t2
    | some o =>
      rw [e] at t2
      cases o with
      | none => exact .inl ⟨sr.stop ρ h H g2 i e, t2.pure g2.hr σ en⟩
      | some w =>
        obtain ⟨j1, j2⟩ := sr.go ρ h H g2 i w e
        refine .inr ⟨j1, fun σ' H' => Inv' (i + 1) m σ' H', fun σ' H' q => ⟨m, Nat.lt_succ_self m, q⟩, fun x H' y => ?_⟩
        obtain ⟨g3, rx⟩ := j2 x H' y
        obtain ⟨env1, e1, t3⟩ := t2.of
        have en3 := g3.en g2.hr en
        refine ⟨ρ, env, h, w, env1, ⟨g3.hr, en3⟩, rx, e1, fun σ2 en2 _ => ?_⟩
        have t4 := Tm.from g3 ((Tm.bind t3).sl (σ' := σ2))
        refine ⟨ρ, env1, h, ⟨g3.hr, en2⟩, t4.mono fun ρ4 h4 H4 fl g4 t5 => ?_⟩
        have gg := g2.trans (g3.trans g4)
        cases fl with
        | nx e => exact fun σ' r => ⟨ρ4, e, h4, gg, r, t5.sl⟩
        | ct e => exact fun σ' r => ⟨ρ4, e, h4, gg, r, t5.sl⟩
        | bk e => exact fun σ' r => t5.pure g4.hr σ' r
        | rt w => exact fun v r => t5.pure g4.hr v r
end
/-! ### list comprehensions -/
abbrev wF : WX := fun _ _ _ _ => False
/-- no exception leaves -/
def Res.nox {α : Type} (r : Res α) : Res α := Res.rec (motive := fun _ => Res α) (fun a h => .ok a h) (fun _ _ _ => .err) .err (fun n _ ih => .ask n ih) r
def nox {α : Type} (m : M α) : M α := fun h => (m h).nox
def trW (m : M W) : M W := fun h => (m h).bind fun w h' => .ok w (trim h.length (below h.length w) h')
def lcL (s : Src) (g : TgE) (c : ET) (e : EE) (env0 : En) : Nat → Nat → List W → M (List W)
  | 0, _, _ => M.err
  | n + 1, i, acc => do
    let h ← M.heap
    match s i h with
    | none => M.err
    | some none => pure acc
    | some (some w) => do
      let env1 ← M.of (g.st w env0)
      let t ← trB (nox (c env1))
      match t with
      | false => lcL s g c e env0 n (i + 1) acc
      | true => do
        let y ← trW (nox (e env1))
        if acc.length < sizeLine then lcL s g c e env0 n (i + 1) (acc ++ [y]) else M.err
def wipeE (env : En) : List Nat → En
  | [] => env
  | v :: vs => (wipeE env vs).set v none
def evLc (si : En → M (Src × Nat)) (vs : List Nat) (g : TgE) (c : ET) (e : EE) : EE := fun env => do
  let s ← si env
  let acc ← lcL s.1 g c e (wipeE env vs) s.2 0 []
  (P.new (.lst acc)).up
section
variable {X : Cx} {k : Kx} {Wx : WX}
theorem Tm.nox {α : Type} {σ σ' : St} {ρ : List Addr} {h : Hv} {H : Hp} {m : M α} {R : List Addr → Hv → Hp → α → Prop} (t : Tm k Wx σ ρ h H (nox m) R) : Tm k wF σ' ρ h H m R := by
  have key : ∀ {r : Res α}, TmR k Wx σ ρ H R r.nox → TmR k wF σ' ρ H R r := fun {r} => by
    induction r with
    | err => exact fun t => t
    | exc c v h' => exact fun t => False.elim t
    | ok a h1 => exact fun t => t
    | ask n q ih => exact fun t i hi => ih i (t i hi)
  exact key t
theorem Tm.trW {σ : St} {ρ : List Addr} {h : Hv} {H : Hp} {m : M W} {R : Hp → V → Prop} (hr : k.HR ρ h H) (t : Tm k Wx σ ρ h H (trW m) fun ρ' _ H' w => ∀ v, k.RW ρ' H' w v → R H' v) : Tm k Wx σ ρ h H m fun ρ' _ H' w => ∀ v, k.RW ρ' H' w v → R H' v := by
  refine TmR.mapOk (fun w h1 t => ?_) (show TmR k Wx σ ρ H _ ((m h).bind fun w h' => .ok w (trim h.length (below h.length w) h')) from t)
  · unfold trim at t
    intro ρ1 H1 g v r
    by_cases c1 : h1.length ≤ h.length
    · rw [if_pos c1] at t; exact t ρ1 H1 g v r
    · rw [if_neg c1] at t
      by_cases c2 : (below h.length w && (h1.take h.length).all (O.below h.length)) = true
      · rw [if_pos c2] at t
        obtain ⟨d1, d2⟩ := Bool.and_eq_true_iff.mp c2
        exact t _ _ (g.cut hr d2) v (RW.cut r d1)
      · rw [if_neg c2] at t; exact t ρ1 H1 g v r
theorem EnR.wipe {ρ : List Addr} {H : Hp} {env : En} {σ : St} (r : k.EnR ρ H env σ) : ∀ vs : List Nat, k.EnR ρ H (wipeE env vs) (wipe σ vs)
  | [] => r
  | v :: vs => by
    have ih := EnR.wipe r vs
    refine ⟨?_, fun i w e => ?_⟩
    · show ((wipeE env vs).set v none).length = ((L2.wipe σ vs).set v none).length
      rw [List.length_set, List.length_set]; exact ih.len
    · have e' : ((wipeE env vs).set v none)[i]? = some (some w) := e
      by_cases hi : v = i
      · subst hi
        have hl : v < (wipeE env vs).length := by
          have := (List.getElem?_eq_some_iff.mp e').1
          rwa [List.length_set] at this
        rw [List.getElem?_set_self hl] at e'; cases e'
      · rw [List.getElem?_set_ne hi] at e'
        obtain ⟨v', e1, q⟩ := ih.val i w e'
        refine ⟨v', ?_, q⟩
        show ((L2.wipe σ vs).set v none)[i]? = _
        rw [List.getElem?_set_ne hi]; exact e1
theorem wipe_get {σ σ' : St} : ∀ {vs : List Nat}, σ'.length = σ.length → (∀ j, j ∉ vs → σ'[j]? = σ[j]?) → L2.wipe σ' vs = L2.wipe σ vs := fun {vs} hl hj => by
  refine List.ext_getElem? fun i => ?_
  have key : ∀ (τ : St) (vs : List Nat), (L2.wipe τ vs)[i]? = if i ∈ vs then (if i < τ.length then some none else none) else τ[i]? := by
    intro τ vs
    induction vs with
    | nil => simp [L2.wipe]
    | cons v vs ih =>
      show ((L2.wipe τ vs).set v none)[i]? = _
      by_cases hv : v = i
      · subst hv
        by_cases hi : v < τ.length
        · rw [List.getElem?_set_self (by rw [L2.wipe_length]; exact hi)]
          simp [hi]
        · rw [List.getElem?_eq_none (by rw [List.length_set, L2.wipe_length]; omega)]
          simp [hi]
      · rw [List.getElem?_set_ne hv, ih]
        have : (i ∈ v :: vs) ↔ i ∈ vs := by simp [Ne.symm hv]
        simp only [this]
  rw [key, key, hl]
  by_cases hi : i ∈ vs
  · rw [if_pos hi, if_pos hi]
  · rw [if_neg hi, if_neg hi]; exact hj i hi
theorem Off.wipe {sl vs : List Nat} {σ σ' : St} (o : Off sl (L2.wipe σ vs) σ') (hs : ∀ i ∈ sl, i ∈ vs) : L2.wipe σ' vs = L2.wipe σ vs := by
  have h1 : L2.wipe σ' vs = L2.wipe (L2.wipe σ vs) vs := wipe_get o.1 fun j hj => o.2 j fun z => hj (hs j z)
  have h2 : L2.wipe (L2.wipe σ vs) vs = L2.wipe σ vs := wipe_get (L2.wipe_length σ vs) fun j hj => by
    have key : ∀ (vs : List Nat), j ∉ vs → (L2.wipe σ vs)[j]? = σ[j]? := by
      intro vs
      induction vs with
      | nil => intro _; rfl
      | cons v vs ih =>
        intro hj
        rw [List.mem_cons, not_or] at hj
        show ((L2.wipe σ vs).set v none)[j]? = _
        rw [List.getElem?_set_ne (Ne.symm hj.1)]
        exact ih hj.2
    exact key vs hj
  rw [h1, h2]
theorem Tm.bindB {α β : Type} {σ : St} {ρ1 ρ : List Addr} {h : Hv} {H1 H : Hp} {m : M α} {f : α → M β} {R : List Addr → Hv → Hp → β → Prop} (t : Tm k Wx σ ρ1 h H1 (m >>= f) R) (g : k.Go ρ1 H1 ρ h H) : Tm k Wx σ ρ h H m fun _ h' _ a => Tm k Wx σ ρ1 h' H1 (f a) R := by
  have key : ∀ {r : Res α}, TmR k Wx σ ρ1 H1 R (r.bind fun a h' => f a h') → TmR k Wx σ ρ H (fun _ h' _ a => Tm k Wx σ ρ1 h' H1 (f a) R) r := fun {r} => by
    induction r with
    | err => exact fun t => t
    | exc c v h' => exact fun t ρ' H' d v g2 => t ρ' H' d v (g.trans g2)
    | ok a h1 => exact fun t ρ' H' _ => t
    | ask n q ih => exact fun t i hi => ih i (t i hi)
  exact key t
/-- a list that is none of ours is changed -/
theorem HR.beside {ρ : List Addr} {h : Hv} {H : Hp} (hr : k.HR ρ h H) {D : Addr} {us us' : List V} (nD : D ∉ ρ) (hz : k.ca.H0 D = none) (hD : H D = some (.lst us)) : k.HR ρ h (upd H D (.lst us')) ∧ ∀ {w : W} {v : V}, k.RW ρ H w v → k.RW ρ (upd H D (.lst us')) w v := by
  have k2 : ∀ a vs, SqT k.K H a vs → SqT k.K (upd H D (.lst us')) a vs := fun a vs st => by
    rcases st with (st | ⟨o, st⟩) | st
    · exact .inl (.inl (by rw [upd_ne (fun z => by rw [z, hD] at st; cases st)]; exact st))
    · exact .inl (.inr ⟨o, by rw [upd_ne (fun z => by rw [z, hD] at st; cases st)]; exact st⟩)
    · exact .inr st
  have k3 : ∀ a vs, RoL k.K H a vs → RoL k.K (upd H D (.lst us')) a vs := fun a vs st => by
    rcases st with ⟨o, st⟩ | st
    · exact .inl ⟨o, by rw [upd_ne (fun z => by rw [z, hD] at st; cases st)]; exact st⟩
    · exact .inr st
  refine ⟨⟨hr.len, hr.nd, fun i a o e1 e2 => ?_, fun b o e => ⟨by rw [upd_ne (fun z => by rw [z, hz] at e; cases e)]; exact (hr.base b o e).1, (hr.base b o e).2⟩⟩, fun r => r.mono (fun _ _ e => e) k2 k3⟩
  have na : a ≠ D := fun z => nD (by rw [← z]; exact List.mem_of_getElem? e1)
  have q := hr.obj i a o e1 e2
  cases o with
  | lst xs => obtain ⟨vs, q, s⟩ := q; exact ⟨vs, by rw [upd_ne na]; exact q, s.mono (fun _ _ e => e) k2 k3⟩
  | dct kvs => obtain ⟨kv, q, z, s⟩ := q; exact ⟨kv, by rw [upd_ne na]; exact q, z, s.mono (fun _ _ e => e) k2 k3⟩
  | ins c fs => obtain ⟨hc, dx, fs', q, z, s⟩ := q; exact ⟨hc, dx, fs', by rw [upd_ne na]; exact q, z, s.mono (fun _ _ e => e) k2 k3⟩
  | xdv w => obtain ⟨v, q, s⟩ := q; exact ⟨v, by rw [upd_ne na]; exact q, s.mono (fun _ _ e => e) k2 k3⟩
  | exo c d => obtain ⟨hc, dx, z, q⟩ := q; exact ⟨hc, dx, z, by rw [upd_ne na]; exact q⟩
  | pot q1 r1 => obtain ⟨x, y, z, q, s⟩ := q; exact ⟨x, y, z, by rw [upd_ne na]; exact q, s⟩
theorem Go.keepD {ρ ρ' : List Addr} {h' : Hv} {H H' : Hp} (g : k.Go ρ H ρ' h' H') {D : Addr} {o : HO} (nD : D ∉ ρ) (hD : H D = some o) : H' D = some o ∧ D ∉ ρ' :=
  ⟨g.frame D o hD nD, fun z => by have := g.new D z nD; rw [hD] at this; cases this⟩
theorem rws_of {ρ ρ' : List Addr} {H H' : Hp} (f : ∀ {w : W} {v : V}, k.RW ρ H w v → k.RW ρ' H' w v) : ∀ {ws : List W} {vs : List V}, k.RWs ρ H ws vs → k.RWs ρ' H' ws vs
  | _, _, .nil => .nil
  | _, _, .cons r s => .cons (f r) (rws_of f s)
/-- the reading of a list comprehension -/
theorem t_lc {si : En → M (Src × Nat)} {vs : List Nat} {g : TgE} {c : ET} {e : EE} {σ : St} {H : Hp} {Q : VK} (hs : ∀ i ∈ g.sl, i ∈ vs) (t : tE k Wx (evLc si vs g c e) σ H Q) : tLc (tI k Wx si) (tG k g) (tT k wF c) (tE k wF e) vs σ H Q := by
  obtain ⟨ρ, env, h, S, t⟩ := t
  refine ⟨ρ, env, h, S, t.bind.mono fun ρ1 h1 H1 s g1 t1 J sr D nD => ?_⟩
  have en1 := EnR.wipe (g1.en S.hr S.en) vs
  have gD : k.Go ρ1 H1 ρ1 h1 (upd H1 D (.lst [])) := g1.hr.pushT nD
  have nDρ : D ∉ ρ1 := fun z => (g1.hr.no_tup z).2.2 nD
  let I : Nat → Nat → Hp → Prop := fun i m H => ∃ ρ h acc us, k.Go ρ1 H1 ρ h H ∧ D ∉ ρ ∧ H D = some (.lst us) ∧ k.RWs ρ H acc us ∧ k.EnR ρ H (wipeE env vs) (L2.wipe σ vs) ∧
    Tm k Wx σ ρ1 h H1 (lcL s.1 g c e (wipeE env vs) m i acc >>= fun acc => (P.new (.lst acc)).up) fun ρ' _ H' w => ∀ v, k.RW ρ' H' w v → Q v H'
  refine ⟨I, ⟨s.2, ρ1, h1, [], [], gD, nDρ, upd_same, .nil, gD.en g1.hr en1, t1⟩, fun i m H ⟨ρ, h, acc, us, g2, nd, hD, ra, en, t⟩ => ?_⟩
  cases m with
  | zero => exact False.elim t
  | succ m =>
    have t2 : Tm k Wx σ ρ1 h H1 ((match s.1 i h with
      | none => M.err
      | some none => pure acc
      | some (some w) => do
        let env1 ← M.of (g.st w (wipeE env vs))
        let t ← trB (Ev.nox (c env1))
        match t with
        | false => lcL s.1 g c e (wipeE env vs) m (i + 1) acc
        | true => do
          let y ← trW (Ev.nox (e env1))
          if acc.length < sizeLine then lcL s.1 g c e (wipeE env vs) m (i + 1) (acc ++ [y]) else M.err) >>= fun acc => (P.new (.lst acc)).up) fun ρ' _ H' w => ∀ v, k.RW ρ' H' w v → Q v H' := t
    cases q : s.1 i h with
    | none => rw [q] at t2; exact False.elim t2
    | some o =>
      rw [q] at t2
      cases o with
      | none =>
        refine .inl ⟨sr.stop ρ h H g2 i q, ?_⟩
        have hr := g2.hr
        have gp : k.Go ρ1 H1 (ρ ++ [D]) (h ++ [.lst acc]) H := by
          obtain ⟨r0, e0⟩ := g2.pre
          refine ⟨⟨by simp [hr.len], ?_, fun j a o e1 e2 => ?_, fun b o e => ⟨(hr.base b o e).1, fun z => (List.mem_append.mp z).elim (hr.base b o e).2 fun z => by rw [List.mem_singleton.mp z, g1.hr.zero nD] at e; cases e⟩⟩, ⟨r0 ++ [D], by rw [e0, List.append_assoc]⟩, fun b hb hn => ?_, g2.frame⟩
          · rw [List.nodup_append]
            exact ⟨hr.nd, by simp, fun a ha b hb => by rw [List.mem_singleton.mp hb]; rintro rfl; exact nd ha⟩
          · by_cases hj : j < ρ.length
            · rw [List.getElem?_append_left hj] at e1
              rw [List.getElem?_append_left (by rw [← hr.len]; exact hj)] at e2
              exact hr.ro (fun b o e _ => e) get_app rfl (hr.obj j a o e1 e2)
            · rw [List.getElem?_append_right (by omega)] at e1
              rw [List.getElem?_append_right (by rw [← hr.len]; omega)] at e2
              have i0 : j - ρ.length = 0 := by
                have := (List.getElem?_eq_some_iff.mp e1).1
                simp at this; omega
              rw [i0] at e1
              rw [← hr.len, i0] at e2
              simp at e1 e2
              subst e1; subst e2
              exact ⟨us, hD, hr.rws (fun b o e _ => e) get_app ra⟩
          · rcases List.mem_append.mp hb with z | z
            · exact g2.new b z hn
            · rw [List.mem_singleton.mp z]; exact nD
        exact t2 _ _ gp _ (RW.last hr)
      | some w =>
        obtain ⟨j1, j2⟩ := sr.go ρ h H g2 i w q
        refine .inr ⟨j1, fun H' => I (i + 1) m H', fun H' q => ⟨m, Nat.lt_succ_self m, q⟩, fun x H' y => ?_⟩
        obtain ⟨g3, rx⟩ := j2 x H' y
        obtain ⟨hD3, nd3⟩ := g3.keepD nd hD
        have en3 := g3.en g2.hr en
        have ra3 := g3.rws g2.hr ra
        have g23 := g2.trans g3
        -- the target
        have t3 : Tm k Wx σ ρ1 h H1 (M.of (g.st w (wipeE env vs)) >>= fun env1 => (do
          let t ← trB (Ev.nox (c env1))
          match t with
          | false => lcL s.1 g c e (wipeE env vs) m (i + 1) acc
          | true => do
            let y ← trW (Ev.nox (e env1))
            if acc.length < sizeLine then lcL s.1 g c e (wipeE env vs) m (i + 1) (acc ++ [y]) else M.err) >>= fun acc => (P.new (.lst acc)).up) fun ρ' _ H' w => ∀ v, k.RW ρ' H' w v → Q v H' := by
          unfold Tm at t2 ⊢
          cases qq : g.st w (wipeE env vs) with
          | none =>
            simp only [qq] at t2
            exact t2
          | some env1 =>
            simp only [qq] at t2
            exact t2
        obtain ⟨env1, e1, t4⟩ := t3.of
        refine ⟨ρ, wipeE env vs, h, w, env1, ⟨g3.hr, en3⟩, rx, e1, fun σ2 en2 off => ⟨off.wipe hs, ?_⟩⟩
        -- the test
        have t5 : Tm k Wx σ ρ1 h H1 (trB (Ev.nox (c env1)) >>= fun t => (match t with
          | false => lcL s.1 g c e (wipeE env vs) m (i + 1) acc
          | true => do
            let y ← trW (Ev.nox (e env1))
            if acc.length < sizeLine then lcL s.1 g c e (wipeE env vs) m (i + 1) (acc ++ [y]) else M.err) >>= fun acc => (P.new (.lst acc)).up) fun ρ' _ H' w => ∀ v, k.RW ρ' H' w v → Q v H' := by
          unfold Tm at t4 ⊢
          have e : ∀ {α β γ : Type} (a : M α) (f : α → M β) (g : β → M γ), ((a >>= f) >>= g) = (a >>= fun x => f x >>= g) := fun a f g => M.assoc a f g
          rw [e] at t4
          exact t4
        have t6 := t5.bindB g23
        refine ⟨ρ, env1, h, ⟨g3.hr, en2⟩, ?_⟩
        refine Tm.nox (Wx := Wx) (σ := σ) ?_
        refine Tm.trB (R := fun H3 b => if b = true then tE k wF e σ2 H3 fun y H4 => ∃ acc, H4 D = some (.lst acc) ∧ acc.length < sizeLine ∧ I (i + 1) m (upd H4 D (.lst (acc ++ [y]))) else I (i + 1) m H3) g3.hr (t6.mono fun ρ4 h4 H4 b g4 t7 => ?_)
        obtain ⟨hD4, nd4⟩ := g4.keepD nd3 hD3
        have g14 := g23.trans g4
        have ra4 := g4.rws g3.hr ra3
        have en4 := g4.en g3.hr en3
        cases b with
        | false => exact ⟨ρ4, h4, acc, us, g14, nd4, hD4, ra4, en4, t7⟩
        | true =>
          have t8 : Tm k Wx σ ρ1 h4 H1 (trW (Ev.nox (e env1)) >>= fun y => (if acc.length < sizeLine then lcL s.1 g c e (wipeE env vs) m (i + 1) (acc ++ [y]) else M.err) >>= fun acc => (P.new (.lst acc)).up) fun ρ' _ H' w => ∀ v, k.RW ρ' H' w v → Q v H' := by
            unfold Tm at t7 ⊢
            have e : ∀ {α β γ : Type} (a : M α) (f : α → M β) (g : β → M γ), ((a >>= f) >>= g) = (a >>= fun x => f x >>= g) := fun a f g => M.assoc a f g
            rw [e] at t7
            exact t7
          have t9 := t8.bindB g14
          refine ⟨ρ4, env1, h4, ⟨g4.hr, g4.en g3.hr en2⟩, ?_⟩
          refine Tm.nox (Wx := Wx) (σ := σ) ?_
          refine Tm.trW (R := fun H5 v => ∃ acc, H5 D = some (.lst acc) ∧ acc.length < sizeLine ∧ I (i + 1) m (upd H5 D (.lst (acc ++ [v])))) g4.hr (t9.mono fun ρ5 h5 H5 y g5 t10 v ry => ?_)
          obtain ⟨hD5, nd5⟩ := g5.keepD nd4 hD4
          have g15 := g14.trans g5
          have ra5 := g5.rws g4.hr ra4
          have en5 := g5.en g4.hr en4
          by_cases cl : acc.length < sizeLine
          · rw [if_pos cl] at t10
            refine ⟨us, hD5, by rw [← ra5.length]; exact cl, ?_⟩
            obtain ⟨hr6, up6⟩ := HR.beside (us' := us ++ [v]) g15.hr nd5 (g1.hr.zero nD) hD5
            refine ⟨ρ5, h5, acc ++ [y], us ++ [v], ⟨hr6, g15.pre, g15.new, fun b o eb hb => ?_⟩, nd5, upd_same, ?_, ?_, t10⟩
            · have nb : b ≠ D := fun z => by rw [z, nD] at eb; cases eb
              rw [upd_ne nb]; exact g15.frame b o eb hb
            · exact rws_of up6 (ra5.append (.cons ry .nil))
            · exact ⟨en5.len, fun j w e => let ⟨v', e1, q⟩ := en5.val j w e; ⟨v', e1, up6 q⟩⟩
          · rw [if_neg cl] at t10; exact False.elim t10
end
end
end Ev
set_option Elab.async false
set_option linter.all false
set_option maxRecDepth 100000
namespace Ev
open PySem L2 PySem.Spec PyProof.Rows
noncomputable section
/-! ### calls by draws: len of the script -/
def evCallM (f : List W → M W) (a : EL) : EE := fun env => do let ws ← a env; nox (f ws)
def rMc (k : Kx) (f : List W → M W) : List V → Hp → VK → Prop := fun xs H Q => ∃ ρ h ws, k.HR ρ h H ∧ k.RWs ρ H ws xs ∧ Tm k wF [] ρ h H (f ws) fun ρ' _ H' w => ∀ v, k.RW ρ' H' w v → Q v H'
def isScr1 : List W → Bool
  | [.scr] => true
  | _ => false
theorem isScr1_ok {ws : List W} (e : isScr1 ws = true) : ws = [.scr] := by
  unfold isScr1 at e
  split at e
  · rfl
  · cases e
def lenM (ws : List W) : M W := fun h => match isScr1 ws with
  | true => .ask 64 fun i => .ok (.int i) h
  | false => (lenP ws).up h
section
variable {X : Cx} {k : Kx} {Wx : WX}
theorem t_callM {f : List W → M W} {a : EL} {σ : L2.St} {H : Hp} {Q : VK} (t : tE k Wx (evCallM f a) σ H Q) : tCB (rMc k f) (tL k Wx a) σ H Q := by
  obtain ⟨ρ, env, h, S, t⟩ := t
  exact ⟨ρ, env, h, S, t.bind.mono fun ρ1 h1 H1 ws g1 t1 vs r => ⟨ρ1, h1, ws, g1.hr, r, Tm.nox t1⟩⟩
theorem c_callBM {f : List W → M W} {x : Str} {id : String} {e : Expr} {es : List Expr} {a : EL} {p pos : Pos} (hc : CallR X (.builtin id) (rMc k f)) (hg : Gl X x) (hm : X.mg x = none) (hv : bootBuiltins x = some (.builtin id)) (ha : PA X (e :: es) (tL k Wx a))
    (hn : x ≠ "__name__") (hd : (x == ("__debug__" : Str)) = false) (hs : starEach (e :: es) X.env = (false, eval e X.env) :: starEach es X.env) (hpl : (backTo pos (starEach es X.env)).any (·.1) = false) : PE X (.Call (.Name x p) (e :: es) [] pos) (tE k Wx (evCallM f a)) :=
  (pe_callB hc hg hm hv ha hn hd hs hpl).imp fun _ _ _ => t_callM
theorem b_lenM (hK : X.K = k.K) (hn : k.ca.ns.length < 64) : CallR X (.builtin "len") (rMc k lenM) := by
  intro pins s σ H xs us Q I rx ⟨ρ, h, ws, hr, rs, t⟩
  unfold Tm lenM at t
  cases e : isScr1 ws with
  | true =>
    have := isScr1_ok e
    subst this
    obtain ⟨v, rfl, r⟩ := rs.one
    cases r with
    | scr st =>
      refine call_len_seq pins s σ H _ us Q I rx ⟨_, _, rfl, .inl (by rw [hK]; exact st.sq), ?_⟩
      have t1 := t k.ca.ns.length hn
      rw [List.length_map]
      exact t1 ρ H (Go.refl hr) _ (.int _)
  | false =>
    rw [e] at t
    exact b_len hK pins s σ H xs us Q I rx ⟨ρ, h, ws, hr, rs, Tm.up (show Tm k wF [] ρ h H (lenP ws).up _ from t)⟩
end
end
end Ev
set_option Elab.async false
set_option linter.all false
set_option maxRecDepth 100000
namespace Ev
open PySem L2 PySem.Spec PyProof.Rows
noncomputable section
/-! ### branches that end alike are one -/
mutual
def sameW : W → W → Bool
  | .non, .non => true
  | .bl a, .bl b => a == b
  | .int a, .int b => decide (a = b)
  | .str a, .str b => decide (a = b)
  | .tup a, .tup b => sameWs a b
  | .rol a, .rol b => sameWs a b
  | .ref a, .ref b => Nat.beq a b
  | .ty a, .ty b => decide (a = b)
  | .cls a, .cls b => Nat.beq a b
  | .atm, .atm => true
  | .scr, .scr => true
  | _, _ => false
def sameWs : List W → List W → Bool
  | [], [] => true
  | a :: r, b :: s => sameW a b && sameWs r s
  | _, _ => false
end
mutual
theorem sameW_ok : ∀ {a b : W}, sameW a b = true → a = b
  | .non, .non, _ => rfl
  | .bl a, .bl b, h => by have : (a == b) = true := by simpa [sameW] using h
                          rw [beq_iff_eq.mp this]
  | .int a, .int b, h => by have : a = b := by simpa [sameW] using h
                            rw [this]
  | .str a, .str b, h => by have : a = b := by simpa [sameW] using h
                            rw [this]
  | .tup a, .tup b, h => by rw [sameWs_ok (a := a) (b := b) (by simpa [sameW] using h)]
  | .rol a, .rol b, h => by rw [sameWs_ok (a := a) (b := b) (by simpa [sameW] using h)]
  | .ref a, .ref b, h => by have : a = b := Nat.eq_of_beq_eq_true (by simpa only [sameW] using h)
                            rw [this]
  | .ty a, .ty b, h => by have : a = b := by simpa [sameW] using h
                          rw [this]
  | .cls a, .cls b, h => by have : a = b := Nat.eq_of_beq_eq_true (by simpa only [sameW] using h)
                            rw [this]
  | .atm, .atm, _ => rfl
  | .scr, .scr, _ => rfl
  | .non, .bl _, h => by simp [sameW] at h
  | .non, .int _, h => by simp [sameW] at h
  | .non, .str _, h => by simp [sameW] at h
  | .non, .tup _, h => by simp [sameW] at h
  | .non, .rol _, h => by simp [sameW] at h
  | .non, .ref _, h => by simp [sameW] at h
  | .non, .ty _, h => by simp [sameW] at h
  | .non, .cls _, h => by simp [sameW] at h
  | .non, .atm, h => by simp [sameW] at h
  | .non, .scr, h => by simp [sameW] at h
  | .bl _, .non, h => by simp [sameW] at h
  | .bl _, .int _, h => by simp [sameW] at h
  | .bl _, .str _, h => by simp [sameW] at h
  | .bl _, .tup _, h => by simp [sameW] at h
  | .bl _, .rol _, h => by simp [sameW] at h
  | .bl _, .ref _, h => by simp [sameW] at h
  | .bl _, .ty _, h => by simp [sameW] at h
  | .bl _, .cls _, h => by simp [sameW] at h
  | .bl _, .atm, h => by simp [sameW] at h
  | .bl _, .scr, h => by simp [sameW] at h
  | .int _, .non, h => by simp [sameW] at h
  | .int _, .bl _, h => by simp [sameW] at h
  | .int _, .str _, h => by simp [sameW] at h
  | .int _, .tup _, h => by simp [sameW] at h
  | .int _, .rol _, h => by simp [sameW] at h
  | .int _, .ref _, h => by simp [sameW] at h
  | .int _, .ty _, h => by simp [sameW] at h
  | .int _, .cls _, h => by simp [sameW] at h
  | .int _, .atm, h => by simp [sameW] at h
  | .int _, .scr, h => by simp [sameW] at h
  | .str _, .non, h => by simp [sameW] at h
  | .str _, .bl _, h => by simp [sameW] at h
  | .str _, .int _, h => by simp [sameW] at h
  | .str _, .tup _, h => by simp [sameW] at h
  | .str _, .rol _, h => by simp [sameW] at h
  | .str _, .ref _, h => by simp [sameW] at h
  | .str _, .ty _, h => by simp [sameW] at h
  | .str _, .cls _, h => by simp [sameW] at h
  | .str _, .atm, h => by simp [sameW] at h
  | .str _, .scr, h => by simp [sameW] at h
  | .tup _, .non, h => by simp [sameW] at h
  | .tup _, .bl _, h => by simp [sameW] at h
  | .tup _, .int _, h => by simp [sameW] at h
  | .tup _, .str _, h => by simp [sameW] at h
  | .tup _, .rol _, h => by simp [sameW] at h
  | .tup _, .ref _, h => by simp [sameW] at h
  | .tup _, .ty _, h => by simp [sameW] at h
  | .tup _, .cls _, h => by simp [sameW] at h
  | .tup _, .atm, h => by simp [sameW] at h
  | .tup _, .scr, h => by simp [sameW] at h
  | .rol _, .non, h => by simp [sameW] at h
  | .rol _, .bl _, h => by simp [sameW] at h
  | .rol _, .int _, h => by simp [sameW] at h
  | .rol _, .str _, h => by simp [sameW] at h
  | .rol _, .tup _, h => by simp [sameW] at h
  | .rol _, .ref _, h => by simp [sameW] at h
  | .rol _, .ty _, h => by simp [sameW] at h
  | .rol _, .cls _, h => by simp [sameW] at h
  | .rol _, .atm, h => by simp [sameW] at h
  | .rol _, .scr, h => by simp [sameW] at h
  | .ref _, .non, h => by simp [sameW] at h
  | .ref _, .bl _, h => by simp [sameW] at h
  | .ref _, .int _, h => by simp [sameW] at h
  | .ref _, .str _, h => by simp [sameW] at h
  | .ref _, .tup _, h => by simp [sameW] at h
  | .ref _, .rol _, h => by simp [sameW] at h
  | .ref _, .ty _, h => by simp [sameW] at h
  | .ref _, .cls _, h => by simp [sameW] at h
  | .ref _, .atm, h => by simp [sameW] at h
  | .ref _, .scr, h => by simp [sameW] at h
  | .ty _, .non, h => by simp [sameW] at h
  | .ty _, .bl _, h => by simp [sameW] at h
  | .ty _, .int _, h => by simp [sameW] at h
  | .ty _, .str _, h => by simp [sameW] at h
  | .ty _, .tup _, h => by simp [sameW] at h
  | .ty _, .rol _, h => by simp [sameW] at h
  | .ty _, .ref _, h => by simp [sameW] at h
  | .ty _, .cls _, h => by simp [sameW] at h
  | .ty _, .atm, h => by simp [sameW] at h
  | .ty _, .scr, h => by simp [sameW] at h
  | .cls _, .non, h => by simp [sameW] at h
  | .cls _, .bl _, h => by simp [sameW] at h
  | .cls _, .int _, h => by simp [sameW] at h
  | .cls _, .str _, h => by simp [sameW] at h
  | .cls _, .tup _, h => by simp [sameW] at h
  | .cls _, .rol _, h => by simp [sameW] at h
  | .cls _, .ref _, h => by simp [sameW] at h
  | .cls _, .ty _, h => by simp [sameW] at h
  | .cls _, .atm, h => by simp [sameW] at h
  | .cls _, .scr, h => by simp [sameW] at h
  | .atm, .non, h => by simp [sameW] at h
  | .atm, .bl _, h => by simp [sameW] at h
  | .atm, .int _, h => by simp [sameW] at h
  | .atm, .str _, h => by simp [sameW] at h
  | .atm, .tup _, h => by simp [sameW] at h
  | .atm, .rol _, h => by simp [sameW] at h
  | .atm, .ref _, h => by simp [sameW] at h
  | .atm, .ty _, h => by simp [sameW] at h
  | .atm, .cls _, h => by simp [sameW] at h
  | .atm, .scr, h => by simp [sameW] at h
  | .scr, .non, h => by simp [sameW] at h
  | .scr, .bl _, h => by simp [sameW] at h
  | .scr, .int _, h => by simp [sameW] at h
  | .scr, .str _, h => by simp [sameW] at h
  | .scr, .tup _, h => by simp [sameW] at h
  | .scr, .rol _, h => by simp [sameW] at h
  | .scr, .ref _, h => by simp [sameW] at h
  | .scr, .ty _, h => by simp [sameW] at h
  | .scr, .cls _, h => by simp [sameW] at h
  | .scr, .atm, h => by simp [sameW] at h
theorem sameWs_ok : ∀ {a b : List W}, sameWs a b = true → a = b
  | [], [], _ => rfl
  | a :: r, b :: s, h => by
    have h' : (sameW a b && sameWs r s) = true := by simpa only [sameWs] using h
    obtain ⟨h1, h2⟩ := Bool.and_eq_true_iff.mp h'
    rw [sameW_ok h1, sameWs_ok h2]
  | [], _ :: _, h => by simp [sameWs] at h
  | _ :: _, [], h => by simp [sameWs] at h
end
def sameKV : List (L2.Key × W) → List (L2.Key × W) → Bool
  | [], [] => true
  | a :: r, b :: s => decide (a.1 = b.1) && (sameW a.2 b.2 && sameKV r s)
  | _, _ => false
theorem sameKV_ok : ∀ {a b : List (L2.Key × W)}, sameKV a b = true → a = b
  | [], [], _ => rfl
  | (a1, a2) :: r, (b1, b2) :: s, h => by
    obtain ⟨h1, h⟩ := Bool.and_eq_true_iff.mp h
    obtain ⟨h2, h3⟩ := Bool.and_eq_true_iff.mp h
    have h1 : a1 = b1 := of_decide_eq_true h1
    have h2 : a2 = b2 := sameW_ok h2
    rw [h1, h2, sameKV_ok h3]
  | [], _ :: _, h => by cases h
  | _ :: _, [], h => by cases h
def sameFs : List (Nat × W) → List (Nat × W) → Bool
  | [], [] => true
  | a :: r, b :: s => Nat.beq a.1 b.1 && (sameW a.2 b.2 && sameFs r s)
  | _, _ => false
theorem sameFs_ok : ∀ {a b : List (Nat × W)}, sameFs a b = true → a = b
  | [], [], _ => rfl
  | (a1, a2) :: r, (b1, b2) :: s, h => by
    obtain ⟨h1, h⟩ := Bool.and_eq_true_iff.mp h
    obtain ⟨h2, h3⟩ := Bool.and_eq_true_iff.mp h
    have h1 : a1 = b1 := Nat.eq_of_beq_eq_true h1
    have h2 : a2 = b2 := sameW_ok h2
    rw [h1, h2, sameFs_ok h3]
  | [], _ :: _, h => by cases h
  | _ :: _, [], h => by cases h
def sameO : O → O → Bool
  | .lst a, .lst b => sameWs a b
  | .dct a, .dct b => sameKV a b
  | .ins c a, .ins d b => Nat.beq c d && sameFs a b
  | .xdv a, .xdv b => sameW a b
  | .exo c a, .exo d b => Nat.beq c d && Nat.beq a b
  | .pot c a, .pot d b => Nat.beq c d && Nat.beq a b
  | _, _ => false
theorem sameO_ok {a b : O} (h : sameO a b = true) : a = b := by
  unfold sameO at h
  split at h
  · rw [sameWs_ok h]
  · rw [sameKV_ok h]
  · obtain ⟨h1, h2⟩ := Bool.and_eq_true_iff.mp h
    rw [Nat.eq_of_beq_eq_true h1, sameFs_ok h2]
  · rw [sameW_ok h]
  · obtain ⟨h1, h2⟩ := Bool.and_eq_true_iff.mp h
    rw [Nat.eq_of_beq_eq_true h1, Nat.eq_of_beq_eq_true h2]
  · obtain ⟨h1, h2⟩ := Bool.and_eq_true_iff.mp h
    rw [Nat.eq_of_beq_eq_true h1, Nat.eq_of_beq_eq_true h2]
  · cases h
def sameL {α : Type} (f : α → α → Bool) : List α → List α → Bool
  | [], [] => true
  | a :: r, b :: s => f a b && sameL f r s
  | _, _ => false
theorem sameL_ok {α : Type} {f : α → α → Bool} (hf : ∀ a b, f a b = true → a = b) : ∀ {a b : List α}, sameL f a b = true → a = b
  | [], [], _ => rfl
  | a :: r, b :: s, h => by
    obtain ⟨h1, h2⟩ := Bool.and_eq_true_iff.mp h
    rw [hf _ _ h1, sameL_ok hf h2]
  | [], _ :: _, h => by cases h
  | _ :: _, [], h => by cases h
def sameOW : Option W → Option W → Bool
  | none, none => true
  | some a, some b => sameW a b
  | _, _ => false
theorem sameOW_ok (a b : Option W) (h : sameOW a b = true) : a = b := by
  unfold sameOW at h
  split at h
  · rfl
  · rw [sameW_ok h]
  · cases h
def sameFl : Fl → Fl → Bool
  | .nx a, .nx b => sameL sameOW a b
  | .rt a, .rt b => sameW a b
  | .bk a, .bk b => sameL sameOW a b
  | .ct a, .ct b => sameL sameOW a b
  | _, _ => false
theorem sameFl_ok {a b : Fl} (h : sameFl a b = true) : a = b := by
  unfold sameFl at h
  split at h
  · rw [sameL_ok sameOW_ok h]
  · rw [sameW_ok h]
  · rw [sameL_ok sameOW_ok h]
  · rw [sameL_ok sameOW_ok h]
  · cases h
/-- a pot's draws by whole blocks -/
def rdO : O → O
  | .pot (q + 1) _ => .pot q 63
  | .pot 0 _ => .pot 0 0
  | o => o
section
variable {T : Tb} {K : PySem.W.Frag} {ca : CA} {ρ : List Addr} {h : Hv} {H : Hp}
theorem RO.rd {a : Addr} {o : O} (r : RO T K ca ρ H a o) : RO T K ca ρ H a (rdO o) := by
  unfold rdO
  split
  · obtain ⟨x, y, z, e, h1, h2, h3, h4, h5, h6⟩ := r
    exact ⟨x, y, z, e, h1, h2, h3, h4, h5, by omega⟩
  · obtain ⟨x, y, z, e, h1, h2, h3, h4, h5, h6⟩ := r
    exact ⟨x, y, z, e, h1, h2, h3, h4, h5, by omega⟩
  · exact r
theorem HR.rd (hr : HR T K ca ρ h H) : HR T K ca ρ (h.map rdO) H := by
  refine ⟨by rw [List.length_map]; exact hr.len, hr.nd, fun i a o e1 e2 => ?_, hr.base⟩
  rw [List.getElem?_map, Option.map_eq_some_iff] at e2
  obtain ⟨o', e2, rfl⟩ := e2
  exact (hr.obj i a o' e1 e2).rd
theorem Go.rd {ρ' : List Addr} {H' : Hp} (g : Go T K ca ρ H ρ' h H') : Go T K ca ρ H ρ' (h.map rdO) H' := ⟨g.hr.rd, g.pre, g.new, g.frame⟩
end
/-- the first end -/
def Res.fst {α : Type} (r : Res α) : Option (α × Hv) := Res.rec (motive := fun _ => Option (α × Hv)) (fun a h => some (a, h)) (fun _ _ _ => none) none (fun _ _ ih => ih 0) r
def allN (f : Nat → Bool) : Nat → Bool
  | 0 => true
  | n + 1 => allN f n && f n
theorem allN_ok {f : Nat → Bool} : ∀ {n : Nat}, allN f n = true → ∀ i, i < n → f i = true
  | 0, _, i, hi => by omega
  | n + 1, h, i, hi => by
    obtain ⟨h1, h2⟩ := Bool.and_eq_true_iff.mp h
    by_cases e : i = n
    · rw [e]; exact h2
    · exact allN_ok h1 i (by omega)
/-- all ends are so -/
def Res.alls {α : Type} (f : α → Hv → Bool) (r : Res α) : Bool := Res.rec (motive := fun _ => Bool) (fun a h => f a h) (fun _ _ _ => false) false (fun n _ ih => allN ih n) r
def isAsk {α : Type} : Res α → Bool
  | .ask _ _ => true
  | _ => false
/-- one end for many that are alike -/
def Res.join {α : Type} (eq : α → α → Bool) (r : Res α) : Res α := match isAsk r with
  | true => match r.fst with
    | some (a, h) => match r.alls (fun b h' => eq a b && sameL sameO (h.map rdO) (h'.map rdO)) with
      | true => .ok a (h.map rdO)
      | false => r
    | none => r
  | false => r
section
variable {k : Kx} {Wx : WX} {σ : L2.St} {ρ : List Addr} {h : Hv} {H : Hp} {α : Type}
theorem TmR.alls {eq : α → α → Bool} (he : ∀ a b, eq a b = true → a = b) {R : List Addr → Hv → Hp → α → Prop} (hR : ∀ ρ' h1 h2 H' a, R ρ' h1 H' a → R ρ' h2 H' a) {a : α} {h : Hv} (t : TmR k Wx σ ρ H R (.ok a (h.map rdO))) : ∀ {r : Res α}, r.alls (fun b h' => eq a b && sameL sameO (h.map rdO) (h'.map rdO)) = true → TmR k Wx σ ρ H R r
  | .ok b h', e => by
    obtain ⟨e1, e2⟩ := Bool.and_eq_true_iff.mp (show (eq a b && sameL sameO (h.map rdO) (h'.map rdO)) = true from e)
    have e1 := he _ _ e1
    have e2 := sameL_ok (fun _ _ => sameO_ok) e2
    subst e1
    rw [e2] at t
    exact fun ρ' H' g => hR _ _ _ _ _ (t ρ' H' g.rd)
  | .exc _ _ _, e => by cases e
  | .err, e => by cases e
  | .ask n f, e => fun i hi => TmR.alls he hR t (allN_ok (show allN (fun i => (f i).alls _) n = true from e) i hi)
theorem TmR.join {eq : α → α → Bool} (he : ∀ a b, eq a b = true → a = b) {R : List Addr → Hv → Hp → α → Prop} (hR : ∀ ρ' h1 h2 H' a, R ρ' h1 H' a → R ρ' h2 H' a) {r : Res α} (t : TmR k Wx σ ρ H R (r.join eq)) : TmR k Wx σ ρ H R r := by
  unfold Res.join at t
  split at t
  · split at t
    · split at t
      · rename_i e
        exact TmR.alls he hR t e
      · exact t
    · exact t
  · exact t
end
/-- an expression's branches -/
def evJn (e : EE) : EE := fun env h => (trW (e env) h).join sameW
/-- a loop's turn: what stands behind the first np names is forgotten -/
def clrE (np : Nat) (env : En) : En := env.take np ++ List.replicate (env.length - np) none
def clrF (np : Nat) : Fl → Fl
  | .nx env => .nx (clrE np env)
  | .ct env => .ct (clrE np env)
  | .bk env => .bk (clrE np env)
  | .rt w => .rt w
def esJn (np : Nat) (b : ES) : ES := fun env h => (trF (do let fl ← b env; pure (clrF np fl)) h).join sameFl
section
variable {X : Cx} {k : Kx} {Wx : WX}
theorem c_jn {e : Expr} {ea : EE} (ha : PE X e (tE k Wx ea)) : PE X e (tE k Wx (evJn ea)) := by
  refine ha.imp fun σ H Q ⟨ρ, env, h, S, t⟩ => ⟨ρ, env, h, S, ?_⟩
  exact Tm.trW (R := fun H' v => Q v H') S.hr (TmR.join (fun _ _ => sameW_ok) (fun _ _ _ _ _ z => z) t)
theorem clrE_get {np i : Nat} {env : En} {w : W} (e : (clrE np env)[i]? = some (some w)) : env[i]? = some (some w) := by
  unfold clrE at e
  by_cases hi : i < (env.take np).length
  · rw [List.getElem?_append_left hi, List.getElem?_take] at e
    split at e
    · exact e
    · cases e
  · rw [List.getElem?_append_right (by omega), List.getElem?_replicate] at e
    split at e <;> cases e
theorem EnR.clr {np : Nat} {ρ : List Addr} {H : Hp} {env : En} {σ : L2.St} (r : k.EnR ρ H env σ) : k.EnR ρ H (clrE np env) σ :=
  ⟨by rw [← r.len]; unfold clrE; rw [List.length_append, List.length_take, List.length_replicate]; omega, fun i w e => r.val i w (clrE_get e)⟩
theorem FlOk.clr {np : Nat} {ρ : List Addr} {h : Hv} {H : Hp} {D : Ends} {fl : Fl} (f : FlOk k ρ h H D (clrF np fl)) : FlOk k ρ h H D fl := by
  cases fl with
  | nx env => exact fun σ r => f σ (EnR.clr r)
  | rt w => exact f
  | bk env => exact fun σ r => f σ (EnR.clr r)
  | ct env => exact fun σ r => f σ (EnR.clr r)
theorem d_jn {s : List Stmt} {Ws : XK} {np : Nat} {b : ES} (hb : PSs X s (tS k Ws b)) : PSs X s (tS k Ws (esJn np b)) := by
  refine hb.imp fun D σ H ⟨ρ, env, h, S, t⟩ => ⟨ρ, env, h, S, ?_⟩
  have t1 := Tm.trF S.hr (TmR.join (fun _ _ => sameFl_ok) (fun ρ' h1 h2 H' fl z => by cases fl <;> exact z) t)
  exact t1.bind.mono fun ρ1 h1 H1 fl g1 t2 => FlOk.clr (t2.pure g1.hr)
end
end
end Ev
set_option Elab.async false
set_option linter.all false
set_option maxRecDepth 100000
namespace Ev
open PySem L2 PySem.Spec PyProof.Rows
noncomputable section

/-! ### an own exception over ValueError: the class D has __init__(self, value): super().__init__(value); self.value = value -/
/-- a class C over D (or D) -/
structure UexC (K : PySem.W.Frag) (D C : Addr) : Prop where
  ox : OexC K C
  mro : PySem.W.mroIn K C (.ref D) = some true
  sup : PySem.W.ks_superIn K C D "__init__" = some (some (.builtin "ValueError.__init__"))
  ve : PySem.W.subIn K (.ref C) (.type "ValueError") = some true
  no : PySem.W.findIn K (.ref C) "value" = some none
/-- the promise of __init__ -/
def spInit (K : PySem.W.Frag) (D : Addr) : Sp := fun vs H Q _ => ∃ (a C : Addr) (v : V), vs = [.ref a, v] ∧ UexC K D C ∧ H a = some (exo a C none) ∧ ∀ dx, H dx = none → dx ≠ a → Q .non (upd (upd H dx (exd dx [("value", v)])) a (exo a C (some dx)))

section
variable {prog : Program} {w : World} {A : Around} {E : Value → Shared → Prop} {h : Heap} {g : Array GenState} {d : Drawn} {t : Nat} {os : OsState}
variable {nm q : Str} {C N : Addr} {bs bm : List Value} {hdct : Bool} {sn : List Str} {sub : List Value} {ab : Bool} {col : Option Bool} {dd : Option Addr} {k0 k1 k2 k3 k5 : Option Value}
theorem call_mw {u e t0 : Addr} {rest : List Value} {Q : Value → Shared → Prop}
    (hC : h.get? C = some (excClassObj nm q C N bs bm hdct sn sub ab col dd k0 k1 k2 k3 k5 "ValueError.__new__")) (he : h.get? e = some (HandSPX.excO C t0)) (hu : h.get? u = some (PySem.W.kxs_mw "ValueError.__init__" e)) (hrest : rest.length ≤ sizeLine)
    (hq : ∀ h' t1, (∀ b o, b ≠ e → h.get? b = some o → h'.get? b = some o) → h'.get? e = some (HandSPX.excO C t1) → Q .none ⟨h', g, d, t, os⟩) :
    wpAny (model prog w) A (call (.ref u) rest) Q E ⟨h, g, d, t, os⟩ := by
  refine wpAny_call (codeAny_of_tree ?_)
  show wpAny _ A.in1 (callAny (.ref u) ⟨rest, []⟩) _ _ _
  simp only [callAny]
  refine wpAny_bind (wpAny_load hu ?_)
  simp only [PySem.W.kxs_mw, show (Value.type "method-wrapper" == Value.type "method" || Value.type "method-wrapper" == Value.type "builtin_function_or_method" || Value.type "method-wrapper" == Value.type "method-wrapper") = true by decide, if_true]
  refine W.KFB.if_so (by decide) ?_
  refine wpAny_bind (ESX.check_bound F.excBase_ValueError hC he rfl ?_)
  refine wpAny_bind (wpAny_pure (wpAny_pure ?_))
  refine ⟨Code.quiet_builtin _ (by decide +kernel), codeAny_builtin F.excBase_ValueError.initEntry ?_⟩
  rw [Around.under_plainId F.excBase_ValueError.init.plain _]
  wp_walk
  refine hq _ h.objs.size (fun b o hb ho => ?_) ?_
  · rw [Heap.get?_update_other _ _ (Ne.symm hb)]
    exact Heap.get?_push_of_some _ ho
  · rw [Heap.get?_update_self _ (Heap.get?_push_of_some _ he) rfl]
    rfl
end

section
variable {CX : CXT} {P : Program} {w : World} {K : PySem.W.Frag} {mg : Str → Option Value} {base : Heap} {k : Nat} {D f cc cda : Addr} {name qual : Str} {params : Arguments} {scope : Scope} {dV kV doc pm ct oc ccl cl : Value} {an od cdd cld : Option Addr}
    {osl ccs csl : Array (Option Value)} {vs : Array Value} {file : Str} {tf : Tok} {cdD : ClassData} {ar : Arg} {p0 p1 p2 p3 p4 p5 p6 p7 p8 p9 : Pos}
abbrev initBody (p0 p1 p2 p3 p4 p5 p6 p7 p8 p9 : Pos) : List Stmt := [.Expr (.Call (.Attribute (.Call (.Name "super" p0) [] [] p1) "__init__" p2) [.Name "value" p3] [] p4) p5, .Assign [.Attribute (.Name "self" p6) "value" p7] (.Name "value" p8) p9]
theorem init_ok (lk : K.lookup f = some ⟨oc, od, .func (PySem.W.fnX name qual params (initBody p0 p1 p2 p3 p4 p5 p6 p7 p8 p9) scope [("__class__", cc)] dV kV doc pm an (.ref cda) ct), osl⟩)
    (hcd : PySem.W.codeIn K (.ref cda) qual = true) (hcode : K.lookup cda = some ⟨ccl, cdd, .fields vs, ccs⟩) (hvs : vs[2]? = some (.str file tf)) (hfile : ((P.main.file : Str) == file) = true)
    (hcell : K.lookup cc = some ⟨cl, cld, .cell (some (.ref D)), csl⟩) (hD : PySem.W.clsIn K D = some cdD) (hsuper : mg "super" = none) (htop : (P.main.scope.names.lookup ("super" : Str)).isSome = false) (ho : PySem.W.nsIn K PySem.cStatics "thirdparty.any" = some none)
    (hl : (p2.endLine == p4.line) = true) (hp : (params.posonlyargs ++ params.args).head? = some ar) (har : ar.arg = ("self" : Str))
    (hk : scope.kind = .function) (hco : scope.isCoroutine = false) (hgen : scope.isGenerator = false)
    (l1 : scope.names.lookup ("self" : Str) = some .local) (l2 : scope.names.lookup ("value" : Str) = some .local) (l3 : scope.names.lookup ("super" : Str) = some .globalImplicit) (l4 : scope.names.lookup ("__class__" : Str) = some .free) (nc : ∀ x ∈ scope.names, x.2 ≠ .cell) :
    FnOk P w K mg base CX k f (PySem.W.fnX name qual params (initBody p0 p1 p2 p3 p4 p5 p6 p7 p8 p9) scope [("__class__", cc)] dV kV doc pm an (.ref cda) ct) [("self" : Str), "value"] (spInit K D) := by
  obtain ⟨skind, snames, sgen, scor, smore⟩ := scope
  dsimp only at hk hco hgen l1 l2 l3 l4 nc
  subst hk hco hgen
  refine ⟨fun vs H Q E ⟨a, C, v, e, _⟩ => by rw [e]; rfl, fun A outer s H args us vs' Q E hr e0 hb r hsp => ?_⟩
  obtain ⟨a, C, v, rfl, U, ha, hq⟩ := hsp
  have KX : K.In s.heap := e0.mod.kin.keeps fun b o e => (e0.bs b o e).1
  have lim : s.heap.NoLimit := e0.mod.nolimit.keeps fun b o e => (e0.bs b o e).1
  cases r with
  | cons ra rr =>
  cases rr with
  | cons rv rr =>
  cases rr
  rename_i u0 u1
  obtain rfl : u0 = Value.ref a := ra
  obtain ⟨nm, q, N, bs, bm, sn, sub, ab, col, dd, k0, k1, k2, k3, k5, hC, hbm⟩ := U.ox.cls
  have hcl : PySem.W.clsIn K C = some { name := nm, bases := bs, mro := .ref C :: bm, ns := N, qualname := q, hasDict := true, slotNames := sn, subclasses := sub, abstract := ab, collection := col, hasDel := false } := by unfold PySem.W.clsIn; rw [hC] <;> rfl
  have hD' : ∃ oD, K.lookup D = some oD ∧ oD.data = .cls cdD := by
    unfold PySem.W.clsIn at hD
    split at hD
    · rename_i c d cd' sl ho
      cases hD
      exact ⟨_, ho, rfl⟩
    · cases hD
  obtain ⟨oD, hD1, hD2⟩ := hD'
  let fd : FuncData := PySem.W.fnX name qual params (initBody p0 p1 p2 p3 p4 p5 p6 p7 p8 p9) ⟨.function, snames, false, false, smore⟩ [("__class__", cc)] dV kV doc pm an (.ref cda) ct
  refine ks_codeAny_call_defAt (fd := fd) hr.depth (KX _ _ lk) rfl lim (PySem.W.codeRec_of KX hcd) rfl hb nc (fun x hx => ?_) (fun h₀ hns keep => ?_) rfl rfl rfl
  · rcases List.mem_cons.mp hx with rfl | hx
    · exact l1
    · rcases List.mem_cons.mp hx with rfl | hx
      · exact l2
      · cases hx
  let sc' : Scope := ⟨.function, [("self", .local), ("value", .local)], false, false, smore⟩
  let X : Cx := cxOf CX P w K mg base [("self" : Str), "value"] qual sc' f (.ref cda) A outer s H E
  have hS : FnScope [("self" : Str), "value"] [("self" : Str), "value"] sc' := ⟨rfl, rfl, rfl, by decide, rfl, fun x hx => .inl (by
    rcases List.mem_cons.mp hx with rfl | hx
    · rfl
    · rcases List.mem_cons.mp hx with rfl | hx
      · rfl
      · cases hx), fun y hy => by
    rcases List.mem_cons.mp hy with rfl | hy
    · exact fun z => nomatch z
    · rcases List.mem_cons.mp hy with rfl | hy
      · exact fun z => nomatch z
      · cases hy⟩
  have hns' : h₀.Ns s.heap.objs.size (bindL (envOfC qual sc' s.heap.objs.size f (.ref cda)).kindOf ([("self" : Str), "value"].zip [.ref a, u1]) fun _ => none) := by
    have e : (bindL (envOfC qual sc' s.heap.objs.size f (.ref cda)).kindOf ([("self" : Str), "value"].zip [.ref a, u1]) fun _ => none) = fun x => ([("self" : Str), "value"].zip [Value.ref a, u1]).reverse.lookup x := by
      funext y
      rw [bindL_loc _ _ (fun x hx => by
        rcases List.mem_cons.mp hx with rfl | hx
        · rfl
        · rcases List.mem_cons.mp hx with rfl | hx
          · rfl
          · cases hx) y, Option.or_none]
    rw [e]; exact hns
  have I0 : Inv X [] (start [("self" : Str), "value"] [.ref a, v]) H { s with heap := h₀, toks := s.toks + 2 } :=
    inv_start hS hr.hd e0 rfl (.cons rfl (.cons rv .nil)) ⟨⟨⟨_, _, rfl⟩, hns', keep, Nat.le_refl _⟩, fun n c e => (by cases e), .nil, fun n c e => (by cases e)⟩
  have mself : (fun x => ([("self" : Str), "value"].zip [Value.ref a, u1]).reverse.lookup x) ("self" : Str) = some (Value.ref a) := rfl
  have mval : (fun x => ([("self" : Str), "value"].zip [Value.ref a, u1]).reverse.lookup x) ("value" : Str) = some u1 := rfl
  have hmp : methodCallPos true (.Call (.Name "super" p0) [] [] p1) (callEnv fd s.heap.objs.size f) p2 p4 = pure p4 := by unfold methodCallPos; rw [hl]; rfl
  refine ks_wpAt_execs_cons (ks_wpAt_Expr_any (ks_wpAt_MethodCall (pl := (do return (← importBound (.Call (.Name "super" p0) [] [] p1) (callEnv fd s.heap.objs.size f)).getD true)) ?_ ?_))
  rotate_left
  · show (attributeBase (.Call (.Name "super" p0) [] [] p1) "__init__" (callEnv fd s.heap.objs.size f) (eval (.Call (.Name "super" p0) [] [] p1) (callEnv fd s.heap.objs.size f)) >>= fun ov => standAt p2.atName >>= fun _ =>
      (holding [ov] (calleeOf true (.Call (.Name "super" p0) [] [] p1) (callEnv fd s.heap.objs.size f) ov "__init__") >>= fun x => methodCallPos true (.Call (.Name "super" p0) [] [] p1) (callEnv fd s.heap.objs.size f) p2 p4 >>= fun cp => callWith cp x.1 x.2 _ _)) = _
    rw [hmp]; rfl
  have K0 : K.In h₀ := KX.keeps keep
  obtain ⟨t1, hoe⟩ := exo_at I0.hok ha
  refine ks_wpAt_super_base (f := f) (cc := cda) (fd := fd) (ar := ar) l3 l4 (by decide) rfl (K0 _ _ lk) rfl hp rfl (K0 _ _ hcode) rfl hvs hfile htop ?_
  have bk : ∀ b o, base.get? b = some o → h₀.get? b = some o := fun b o e => keep b o (e0.bs b o e).1
  obtain ⟨mb, b1, b2⟩ := e0.mod.blt
  refine PySem.W.ks_loadName_global rfl l3 (Calls.loadGlobal_builtin (e0.mod.glob.keeps bk) hsuper (b1.keeps bk) ((b2 _ (by decide)).trans (by decide +kernel)) ⟨rfl, ?_⟩)
  refine wpAny_loadName_free rfl l4 rfl ⟨_, K0 _ _ hcell, rfl⟩ ?_
  refine wpAny_loadName_local rfl (by rw [har]; exact l1) hns (by rw [har]; exact mself) ?_
  refine ks_wpAny_isType_cls (K0 _ _ hD1) hD2 ⟨rfl, ?_⟩
  refine ks_wpAny_call_super (K0 _ _ hD1) hD2 hoe rfl (fun c e => by cases e) (PySem.W.looks_mroIn K0 U.mro) (fun h1 e1 k1 => ?_)
  have K1 : K.In h1 := K0.keeps k1
  have ne : a ≠ C := fun z => by
    have y := (k1 _ _ hoe).symm.trans (z ▸ K1 _ _ hC)
    cases y
  refine PySem.W.kxs_getMethod PySem.W.kxs_ValueError e1 (PySem.W.looks_opaque K1 ho) (l₀ := .ref C :: bm) ((PySem.W.looks_clsIn K1 hcl).andThen .now) rfl K1 ?_ ?_ ne (by decide) ?_
  · have z := U.sup
    unfold PySem.W.ks_superIn at z
    rw [hcl] at z
    exact z
  · have J : PySem.W.InstAt h1 a _ C none := ⟨k1 _ _ hoe, rfl, rfl, trivial⟩
    exact J.type.andThen (PySem.W.looks_subIn K1 U.ve)
  have k2 : ∀ b o, h1.get? b = some o → (h1.push (PySem.W.kxs_mw "ValueError.__init__" a)).get? b = some o := fun b o e => Heap.get?_push_of_some _ e
  have ns2 := (hns.keeps k1).keeps k2
  refine PySem.W.kxs_callWith (i := "ValueError.__init__") (x := a) rfl (Calls.evalArgs_plain (Calls.spliced_cons (wpAny_Name (wpAny_loadName_local rfl l2 ns2 mval (Calls.spliced_nil ⟨Heap.get?_push_at rfl rfl, ?_⟩)) (by decide))))
  refine call_mw (K1.keeps k2 _ _ hC) (k2 _ _ (k1 _ _ hoe)) (Heap.get?_push_at rfl rfl) (by show 1 ≤ sizeLine; rw [sizeLine_eq]; omega) fun h3 t3 k3 e3 => ?_
  have kk : ∀ b u, b ≠ a → h₀.get? b = some u → h3.get? b = some u := fun b u hb e => k3 b u hb (k2 b u (k1 b u e))
  have I3 : Inv X [] (start [("self" : Str), "value"] [.ref a, v]) (upd H a (exo a C none)) ⟨h3, s.gens, s.drawn, s.toks + 2 + 1, s.os⟩ := I0.write (t' := s.toks + 2 + 1) (x := a) (e := a) (o := exo a C none) (by rw [ha]; exact True.intro) (.inl rfl) kk ⟨_, e3⟩ (exo_ok e3)
  have eu : upd H a (exo a C none) = H := by
    funext b
    by_cases hb : b = a
    · rw [hb, upd_same, ha]
    · rw [upd_ne hb]
  rw [eu] at I3
  have ns3 : h3.Ns s.heap.objs.size (fun x => ([("self" : Str), "value"].zip [Value.ref a, u1]).reverse.lookup x) := by
    obtain ⟨oL, es, ep, hL, r⟩ := hns
    refine ⟨oL, es, ep, kk _ _ (fun z => ?_) hL, r⟩
    have y := I0.free
    have y' : H s.heap.objs.size = none := y
    rw [z, ha] at y'
    cases y'
  refine ks_wpAt_execs_cons (ks_wpAt_Assign_Attr (wpAt_of_wpAny (wpAny_Name (wpAny_loadName_local rfl l2 ns3 mval ?_) (by decide))))
  refine wpAny_Name (wpAny_loadName_local rfl l1 ns3 mself ?_) (by decide)
  refine ost_new U.ox I3 ha U.no rv fun dx s' n ne J => ?_
  refine wpAt_of_wpAny ?_
  rw [execs_nil]
  exact wpAny_pure ⟨.non, _, J.os, J.bare, J.base, J.hok, rfl, hq dx n ne⟩
end

section
variable {X : Cx} {pins : List (Addr × Obj)} {σ : L2.St} {H : Hp} {s : Shared}
theorem exc_same {H : Hp} {a dx : Addr} {o1 o2 o3 : HO} (ne : dx ≠ a) : upd (upd (upd H a o1) dx o2) a o3 = upd (upd H dx o2) a o3 := by
  funext b
  by_cases hb : b = a
  · rw [hb, upd_same, upd_same]
  · rw [upd_ne hb, upd_ne hb]
    by_cases hd : b = dx
    · rw [hd, upd_same, upd_same]
    · rw [upd_ne hd, upd_ne hd, upd_ne hb]
/-- C(e) as a value -/
def tMkV (C : Addr) (ta : TA) : TE := fun σ H Q => ta σ H fun vs H1 => ∃ v, vs = [v] ∧ ∀ a dx, H1 a = none → H1 dx = none → dx ≠ a → Q (.ref a) (upd (upd H1 dx (exd dx [("value", v)])) a (exo a C (some dx)))
theorem pe_exc {k : Nat} {D C fI : Addr} {fd : FuncData} {x : Str} {e : Expr} {es : List Expr} {ta : TA} {p pos : Pos} {Wx : WX} (tk : Takes X Wx) (U : UexC X.K D C) (iC : PySem.W.findIn X.K (.ref C) "__init__" = some (some (.ref fI))) (tI : PySem.W.typeIn X.K (.ref fI) = some (.type "function"))
    (F1 : FnOk X.prog X.w X.K X.mg X.base (CX X.prog X.w) k fI fd [("self" : Str), "value"] (spInit X.K D)) (hr : Room (k + 1) X.A) (hb : Binds X.K fd [("self" : Str), "value"] []) (hg : Gl X x) (hm : X.mg x = some (.ref C)) (ha : PA X (e :: es) ta)
    (hdb : (x == ("__debug__" : Str)) = false) (he : starEach (e :: es) X.env = (false, eval e X.env) :: starEach es X.env) (hpl : (backTo pos (starEach es X.env)).any (·.1) = false) : PE X (.Call (.Name x p) (e :: es) [] pos) (tMkV C ta) := by
  refine ⟨fun pins s σ H Q I h => ?_⟩
  obtain ⟨nm, q, N, bs, bm, sn, sub, ab, col, dd, k0, k1, k2, k3, k5, hC, hbm⟩ := U.ox.cls
  refine wpAny_Call_Name_kw (ld_glob I hg hm ?_ hdb)
  refine PySem.W.callWith_K (h₀ := X.base) I.ok.mod.kin U.ox.kC (thn (ha.run pos pins s σ H _ I h) fun us s1 ⟨vs, H1, I1, r1, v, ev, q1⟩ => ⟨I1.kIn, ?_⟩) he hpl
  subst ev
  show wpAny _ _ (call (.ref C) us) _ _ _
  obtain ⟨hp, g, dr, tk', os⟩ := s1
  have hsz : hp.objs.size ≤ hp.objs.size + 1 := Nat.le_succ _
  have hn : H1 (hp.objs.size + 1) = none := I1.hok.fresh hsz
  have kk : ∀ b o, hp.get? b = some o → ((hp.push (PySem.W.kdv_tup us)).push (PySem.HandSPX.excO C hp.objs.size)).get? b = some o := fun b o e => Heap.get?_push_of_some _ (Heap.get?_push_of_some _ e)
  have hget : ((hp.push (PySem.W.kdv_tup us)).push (PySem.HandSPX.excO C hp.objs.size)).get? (hp.objs.size + 1) = some (PySem.HandSPX.excO C hp.objs.size) := by heap_get
  have I2 : Inv X pins σ (upd H1 (hp.objs.size + 1) (exo (hp.objs.size + 1) C none)) ⟨(hp.push (PySem.W.kdv_tup us)).push (PySem.HandSPX.excO C hp.objs.size), g, dr, tk', os⟩ :=
    I1.laid (t' := tk') (a := hp.objs.size + 1) (o := exo (hp.objs.size + 1) C none) (h' := (hp.push (PySem.W.kdv_tup us)).push (PySem.HandSPX.excO C hp.objs.size)) kk hsz (exo_ok hget)
  have r2 : Vals (V.ref (hp.objs.size + 1) :: ([v] ++ [])) (Value.ref (hp.objs.size + 1) :: (us ++ [])) := .cons rfl (r1.append .nil)
  have hus : us.length = 1 := by rw [← r1.length]; rfl
  have hl : (Value.ref (hp.objs.size + 1) :: us ++ []).length = [("self" : Str), "value"].length := by simp [hus]
  have hq : spInit X.K D (V.ref (hp.objs.size + 1) :: ([v] ++ [])) (upd H1 (hp.objs.size + 1) (exo (hp.objs.size + 1) C none)) (fun v' H2 => v' = .non ∧ Q (.ref (hp.objs.size + 1)) H2) (WE Wx σ) :=
    ⟨_, C, v, rfl, U, upd_same, fun dx nd ne => by
      rw [exc_same ne]
      rw [upd_ne ne] at nd
      exact ⟨rfl, q1 _ dx hn nd ne⟩⟩
  have hb' := hb _ (Value.ref (hp.objs.size + 1) :: us) I2.kIn hl
  rw [List.cons_append] at hb'
  refine wpAny_call (PySem.HandSPX.call_own F.excBase_ValueError (fun Y => PySem.HandSPX.refsVE_contains Y bm hbm) (I1.kIn _ _ hC) (PySem.W.looks_findIn I1.kIn iC) (fun self => PySem.W.bind_fn I1.kIn self tI) (by rw [hus, sizeLine_eq]; omega)
    (codeAny_mono (F1.run _ X.stack _ _ ⟨Value.ref (hp.objs.size + 1) :: us, []⟩ (Value.ref (hp.objs.size + 1) :: (us ++ [])) _ _ (WE Wx σ) (hr.make C us []) (I2.env0.make C us []) hb' r2 hq) fun r s' hq' => ?_))
  cases r with
  | error er => exact passAt tk σ pins _ _ er s' I2 hq'
  | ok fl =>
    cases fl with
    | ret u =>
      obtain ⟨v', H2, os2, bare2, un2, hok2, rv, ev, q2⟩ := hq'
      subst ev
      exact ⟨rv, .ref (hp.objs.size + 1), H2, I2.call' (ch := []) os2 un2 hok2 bare2 (fun b z => absurd z (by simp)), rfl, q2⟩
    | next => exact False.elim hq'
    | brk => exact False.elim hq'
    | cont => exact False.elim hq'
end
end
end Ev
set_option Elab.async false
set_option linter.all false
set_option maxRecDepth 100000
namespace Ev
open PySem L2 PySem.Spec PyProof.Rows
noncomputable section

/-! ### exceptions: made, raised, read -/
def M.newX (c : Nat) (w : W) : M W := fun h => .ok (.ref (h.length + 1)) ((h ++ [.xdv w]) ++ [.exo c h.length])
def M.exc {α : Type} (c : Nat) (w : W) : M α := fun h => .exc c w h
def oneP {α : Type} (f : W → M α) : List W → M α
  | [w] => f w
  | _ => M.err
def evExc (c : Nat) (a : EL) : EE := fun env => do let ws ← a env; oneP (M.newX c) ws
def sRaise (c : Nat) (a : EL) : ES := fun env => do let ws ← a env; oneP (M.exc c) ws
/-- the text's own exceptions: their numbers stand behind those of the classes; D: the first of them -/
structure Exs (k : Kx) (D : Addr) : Prop where
  u : ∀ c, k.T.cn.length ≤ c → c < k.T.cn.length + k.T.xn → UexC k.K D (k.ca c)
  f : ∀ c, k.T.cn.length ≤ c → c < k.T.cn.length + k.T.xn → XfC k.K (k.ca c)
  i : ∀ c, k.T.cn.length ≤ c → c < k.T.cn.length + k.T.xn → ExcC k.K (k.ca c)
section
variable {X : Cx} {k : Kx} {Wx : WX}
theorem Tm.oneP {α : Type} {f : W → M α} {ws : List W} {σ : L2.St} {ρ : List Addr} {h : Hv} {H : Hp} {R : List Addr → Hv → Hp → α → Prop} (t : Tm k Wx σ ρ h H (oneP f ws) R) : ∃ w, ws = [w] ∧ Tm k Wx σ ρ h H (f w) R := by
  match ws, t with
  | [], t => exact False.elim t
  | [w], t => exact ⟨w, rfl, t⟩
  | _ :: _ :: _, t => exact False.elim t
theorem c_exc {d c : Nat} {D fI : Addr} {fd : FuncData} {x : Str} {e : Expr} {es : List Expr} {a : EL} {p pos : Pos} (tk : Takes X Wx) (hK : X.K = k.K) (E : Exs k D) (c1 : k.T.cn.length ≤ c) (c2 : c < k.T.cn.length + k.T.xn) (iC : PySem.W.findIn X.K (.ref (k.ca c)) "__init__" = some (some (.ref fI))) (tI : PySem.W.typeIn X.K (.ref fI) = some (.type "function"))
    (F1 : FnOk X.prog X.w X.K X.mg X.base (CX X.prog X.w) d fI fd [("self" : Str), "value"] (spInit X.K D)) (hr : Room (d + 1) X.A) (hb : Binds X.K fd [("self" : Str), "value"] []) (hg : Gl X x) (hm : X.mg x = some (.ref (k.ca c))) (ha : PA X (e :: es) (tL k Wx a))
    (hdb : (x == ("__debug__" : Str)) = false) (he : starEach (e :: es) X.env = (false, eval e X.env) :: starEach es X.env) (hpl : (backTo pos (starEach es X.env)).any (·.1) = false) : PE X (.Call (.Name x p) (e :: es) [] pos) (tE k Wx (evExc c a)) := by
  refine (pe_exc tk (by rw [hK]; exact E.u c c1 c2) iC tI F1 hr hb hg hm ha hdb he hpl).imp fun σ H Q ⟨ρ, env, h, S, t⟩ => ⟨ρ, env, h, S, t.bind.mono fun ρ1 h1 H1 ws g1 t1 vs r => ?_⟩
  obtain ⟨w, rfl, t2⟩ := t1.oneP
  obtain ⟨v, rfl, rw1⟩ := r.one
  refine ⟨v, rfl, fun a dx na nd ne => ?_⟩
  have hr := g1.hr
  have go1 := hr.push (p := dx) (u := exd dx [("value", v)]) (o := .xdv w) nd ⟨v, upd_same, ((hr.pushT nd).rw hr rw1).mono get_app (fun _ _ z => z) fun _ _ z => z⟩
  have na' : upd H1 dx (exd dx [("value", v)]) a = none := by rw [upd_ne (Ne.symm ne)]; exact na
  have i1 : ((ρ1 ++ [dx]) ++ [a])[h1.length]? = some dx := by rw [← hr.len]; simp
  have go2 := go1.hr.push (p := a) (u := exo a (k.ca c) (some dx)) (o := .exo c h1.length) na' ⟨⟨c1, c2⟩, dx, i1, upd_same⟩
  exact t2 _ _ (go1.trans go2) (.ref a) (.ref (by rw [← hr.len]; simp))
theorem del_new {H : Hp} {a dx : Addr} {o1 o2 o3 : HO} (na : H a = none) (ne : dx ≠ a) : upd (del (upd (upd H dx o1) a o2) a) dx o3 = upd H dx o3 := by
  funext b
  by_cases hb : b = dx
  · rw [hb, upd_same, upd_same]
  · rw [upd_ne hb, upd_ne hb]
    by_cases hc : b = a
    · rw [hc, del_same, na]
    · rw [del_ne hc, upd_ne hc, upd_ne hb]
theorem d_raise {Ws : XK} {d c : Nat} {D fI : Addr} {fd : FuncData} {x : Str} {e : Expr} {es : List Expr} {a : EL} {p pos pos' : Pos} (hcalm : X.calm = true) (tk : Takes X (wS Ws)) (hK : X.K = k.K) (E : Exs k D) (c1 : k.T.cn.length ≤ c) (c2 : c < k.T.cn.length + k.T.xn) (iC : PySem.W.findIn X.K (.ref (k.ca c)) "__init__" = some (some (.ref fI))) (tI : PySem.W.typeIn X.K (.ref fI) = some (.type "function"))
    (F1 : FnOk X.prog X.w X.K X.mg X.base (CX X.prog X.w) d fI fd [("self" : Str), "value"] (spInit X.K D)) (hr : Room (d + 1) X.A) (hb : Binds X.K fd [("self" : Str), "value"] []) (hg : Gl X x) (hm : X.mg x = some (.ref (k.ca c))) (ha : PA X (e :: es) (tL k (wS Ws) a))
    (hdb : (x == ("__debug__" : Str)) = false) (he : starEach (e :: es) X.env = (false, eval e X.env) :: starEach es X.env) (hpl : (backTo pos (starEach es X.env)).any (·.1) = false) : PS X (.Raise (some (.Call (.Name x p) (e :: es) [] pos)) none pos') (tS k Ws (sRaise c a)) := by
  have U := E.u c c1 c2
  rw [← hK] at U
  refine (ps_raise hcalm tk (pmk_oex (dvs := []) U.ox iC tI F1 hr hb .nil (passes_call (E := fun _ _ _ => False) tk (fun _ _ _ _ z => z.elim)) hg hm ha hdb he hpl)).imp fun Dn σ H ⟨ρ, env, h, S, t⟩ => ⟨ρ, env, h, S, t.bind.mono fun ρ1 h1 H1 ws g1 t1 vs r => ?_⟩
  obtain ⟨w, rfl, t2⟩ := t1.oneP
  obtain ⟨v, rfl, rw1⟩ := r.one
  refine ⟨by show 1 ≤ 1000; omega, fun a na => ⟨a, k.ca c, v, rfl, U, upd_same, fun dx nd ne => ?_⟩⟩
  rw [upd_ne ne] at nd
  refine ⟨rfl, dx, [("value", v)], upd_same, by rw [upd_ne ne, upd_same], nd, ?_⟩
  rw [exc_same ne, del_new na ne]
  have go1 : k.Go ρ1 H1 ρ1 h1 (upd H1 dx (.xd [("value", v)])) := g1.hr.pushT nd
  exact t2 _ _ dx v go1 upd_same (go1.rw g1.hr rw1)
theorem _root_.L2.PE.or {e : Expr} {t1 t2 : TE} (p1 : PE X e t1) (p2 : PE X e t2) : PE X e (fun σ H Q => t1 σ H Q ∨ t2 σ H Q) := ⟨fun pins s σ H Q I h => h.elim (p1.run pins s σ H Q I) (p2.run pins s σ H Q I)⟩

/-! ### e.value of an exception -/
def tXv (K : PySem.W.Frag) (te : TE) : TE := fun σ H Q => te σ H fun x H1 => ∃ (a C dx : Addr) (v : V), x = .ref a ∧ H1 a = some (exo a C (some dx)) ∧ H1 dx = some (exd dx [("value", v)]) ∧ XfC K C ∧ PySem.W.findIn K (.ref C) "value" = some none ∧ Q v H1
theorem pe_xv {e : Expr} {te : TE} {pos : Pos} (he : PE X e te) (hb : attributeBase e "value" X.env (eval e X.env) = eval e X.env) : PE X (.Attribute e "value" pos) (tXv X.K te) := by
  refine ⟨fun pins s σ H Q I h => ?_⟩
  refine attr_of hb (thn (he.run pins s σ H _ I h) fun u s1 hh => ?_)
  obtain ⟨x, H1, I1, rx, a, C, dx, v, ex, ea, ed, T, hno, q⟩ := hh
  subst ex
  obtain rfl : u = Value.ref a := rx
  obtain ⟨t1, ha⟩ := exo_at I1.hok ea
  obtain ⟨mA, hns, hr⟩ := exd_at I1.hok ed
  obtain ⟨od, ho, hl⟩ := lookIn_ns hns
  obtain ⟨u, hu, ru⟩ := RelO.some_of (v := v) (o := mA "value") (by have := hr "value"; simpa [List.lookup] using this)
  have J : PySem.W.InstAt s1.heap a _ C (some od) := ⟨ha, rfl, rfl, ho⟩
  exact HandSPX.exc_get I1.kIn J T.ga T.gg T.exC (PySem.W.findObj_own T.hdC hno rfl (by rw [hl, hu])) (handed_of ru) ⟨v, H1, I1.tok _, ru, q⟩
end
end
end Ev
set_option Elab.async false
set_option linter.all false
set_option maxRecDepth 100000
namespace Ev
open PySem L2 PySem.Spec PyProof.Rows
noncomputable section
section
variable {X : Cx} {k : Kx} {Wx : WX}
/-- no draw within -/
def Res.nka {α : Type} : Res α → Res α
  | .ask _ _ => .err
  | r => r
def nka {α : Type} (m : M α) : M α := fun h => (m h).nka
theorem Tm.unka {α : Type} {m : M α} {σ : L2.St} {ρ : List Addr} {h : Hv} {H : Hp} {R : List Addr → Hv → Hp → α → Prop} (t : Tm k Wx σ ρ h H (nka m) R) : Tm k Wx σ ρ h H m R := by
  unfold Tm Ev.nka at *
  cases q : m h with
  | err => rw [q] at t; exact t
  | exc c v h' => rw [q] at t; exact t
  | ok a h1 => rw [q] at t; exact t
  | ask n f => rw [q] at t; exact False.elim t
theorem Tm.case {α β : Type} {m : M α} {f : α → M β} {σ : L2.St} {ρ : List Addr} {h : Hv} {H : Hp} {R : List Addr → Hv → Hp → β → Prop} (t : Tm k Wx σ ρ h H (nka m >>= f) R) (p : α → Hv → Prop) :
    Tm k Wx σ ρ h H m (fun ρ1 h1 H1 a => p a h1 ∧ Tm k Wx σ ρ1 h1 H1 (f a) R) ∨ Tm k Wx σ ρ h H m (fun ρ1 h1 H1 a => ¬ p a h1 ∧ Tm k Wx σ ρ1 h1 H1 (f a) R) := by
  have t := t.bind
  unfold Tm Ev.nka at *
  cases q : m h with
  | ask n f => rw [q] at t; exact False.elim t
  | err => rw [q] at t; exact False.elim t
  | exc c v h' => rw [q] at t; exact .inl t
  | ok a h1 =>
    rw [q] at t
    by_cases c : p a h1
    · exact .inl fun ρ' H' g => ⟨c, t ρ' H' g⟩
    · exact .inr fun ρ' H' g => ⟨c, t ρ' H' g⟩
def xdvP : O → P W
  | .xdv v => P.ok v
  | _ => P.fail
def fldOX (fv f : Nat) : O → P W
  | .ins _ fs => P.of (fs.lookup f)
  | .exo _ d => P.iff (f == fv) (P.obj d xdvP)
  | _ => P.fail
def fldX (fv f : Nat) : W → P W
  | .ref i => P.obj i (fldOX fv f)
  | _ => P.fail
def evFldX (fv : Nat) (a : EE) (f : Nat) : EE := evU (fldX fv f) fun env => nka (a env)
/-- an exception stands here -/
def isExo (w : W) (h : Hv) : Prop := ∃ i c d, w = .ref i ∧ h[i]? = some (.exo c d)
theorem fldX_ins {fv f : Nat} {w : W} {ρ : List Addr} {h : Hv} {H : Hp} {R : List Addr → Hv → Hp → W → Prop} (t : Tp k ρ h H (fldX fv f w) R) (n : ¬ isExo w h) : Tp k ρ h H (fldP f w) R := by
  unfold fldX at t
  split at t
  · rename_i i
    obtain ⟨o, e, t⟩ := t.obj
    unfold fldOX at t
    split at t
    · show Tp k ρ h H (P.ins i fun _ fs => P.of (fs.lookup f)) R
      unfold P.ins Tp
      dsimp only
      rw [e]; exact t
    · exact absurd ⟨i, _, _, rfl, e⟩ n
    · exact t.fail.elim
  · exact t.fail.elim
theorem fldX_exo {fv f : Nat} {w : W} {ρ : List Addr} {h : Hv} {H : Hp} {R : List Addr → Hv → Hp → W → Prop} (hr : k.HR ρ h H) (t : Tp k ρ h H (fldX fv f w) R) (n : isExo w h) : ∃ i c d v, w = .ref i ∧ h[i]? = some (.exo c d) ∧ h[d]? = some (.xdv v) ∧ f = fv ∧ R ρ h H v := by
  obtain ⟨i, c, d, rfl, e⟩ := n
  unfold fldX at t
  dsimp only at t
  obtain ⟨o, e', t⟩ := t.obj
  rw [e] at e'; cases e'
  unfold fldOX at t
  dsimp only at t
  obtain ⟨q, t⟩ := t.iff
  obtain ⟨o, e2, t⟩ := t.obj
  unfold xdvP at t
  split at t
  · exact ⟨i, c, d, _, rfl, e, e2, by simpa using q, t.ok hr⟩
  · exact t.fail.elim
/-- what stands at an exception -/
theorem RW.exo {ρ : List Addr} {h : Hv} {H : Hp} {i c d : Nat} {x : V} (hr : k.HR ρ h H) (r : k.RW ρ H (.ref i) x) (e : h[i]? = some (.exo c d)) :
    (k.T.cn.length ≤ c ∧ c < k.T.cn.length + k.T.xn) ∧ ∃ a dx, x = .ref a ∧ ρ[i]? = some a ∧ ρ[d]? = some dx ∧ H a = some (L2.exo a (k.ca c) (some dx)) := by
  cases r with
  | ref ea =>
    obtain ⟨hc, dx, e1, e2⟩ := hr.obj i _ _ ea e
    exact ⟨hc, _, dx, rfl, ea, e1, e2⟩
theorem c_fldX {e : Expr} {ea : EE} {f fv : Nat} {x : Str} {D : Addr} {pos : Pos} (C : Clss k) (E : Exs k D) (hK : X.K = k.K) (hv : k.T.nm[fv]? = some "value") (hx : k.T.nm[f]? = some x) (ha : PE X e (tE k Wx ea)) (hb : attributeBase e x X.env (eval e X.env) = eval e X.env) : PE X (.Attribute e x pos) (tE k Wx (evFldX fv ea f)) := by
  have old : ∀ {σ : L2.St} {ρ : List Addr} {h : Hv} {H : Hp} {Q : VK} {w : W} {v : V}, k.HR ρ h H → ¬ isExo w h → Tp k ρ h H (fldX fv f w) (fun ρ' _ H' w => ∀ v, k.RW ρ' H' w v → Q v H') → k.RW ρ H w v →
      ∃ (a : Addr) (C : Addr) (dx : Addr) (fs : List (Str × V)) (v' : V), v = .ref a ∧ H a = some (.ins C dx fs) ∧ Cls X.K C ∧ NoAttr X.K C x ∧ fs.lookup x = some v' ∧ Q v' H := by
    intro σ ρ h H Q w v hr n t r
    have t2 := fldX_ins t n
    unfold fldP at t2
    split at t2
    · obtain ⟨c, fs, e1, t3⟩ := t2.ins
      obtain ⟨w', e2, q⟩ := t3.of hr
      obtain ⟨hc, a, dx, fs', rfl, _, q2, q3, q4⟩ := RW.inst hr r e1
      rcases lookup_fs C.nd hx q3 q4 with ⟨h1, _⟩ | ⟨w2, v2, h1, h2, h3⟩
      · rw [h1] at e2; cases e2
      · rw [h1] at e2; cases e2
        exact ⟨a, _, dx, fs', v2, rfl, q2, by rw [hK]; exact C.cls c hc, by rw [hK]; exact C.noat c hc f x hx, h2, q _ h3⟩
    · exact t2.fail.elim
  by_cases ef : f = fv
  · subst ef
    rw [hx] at hv
    cases hv
    refine ((pe_fld ha hb).or (pe_xv ha hb)).imp fun σ H Q ⟨ρ, env, h, S, t⟩ => ?_
    rcases Tm.case t isExo with t | t
    · refine .inr ⟨ρ, env, h, S, t.mono fun ρ1 h1 H1 w g1 ⟨n, t1⟩ v r => ?_⟩
      obtain ⟨i, c, d, w', rfl, e1, e2, _, q⟩ := fldX_exo g1.hr t1.up n
      obtain ⟨⟨h1, h2⟩, a, dx, rfl, ea, ed, q2⟩ := RW.exo g1.hr r e1
      obtain ⟨v', q3, r'⟩ := g1.hr.obj d dx _ ed e2
      exact ⟨a, _, dx, v', rfl, q2, q3, by rw [hK]; exact E.f c h1 h2, by rw [hK]; exact (E.u c h1 h2).no, q _ r'⟩
    · exact .inl ⟨ρ, env, h, S, t.mono fun ρ1 h1 H1 w g1 ⟨n, t1⟩ v r => old (σ := σ) g1.hr n t1.up r⟩
  · refine (pe_fld ha hb).imp fun σ H Q ⟨ρ, env, h, S, t⟩ => ⟨ρ, env, h, S, (Tm.unka t.bind).mono fun ρ1 h1 H1 w g1 t1 v r => old (σ := σ) g1.hr (fun n => ?_) t1.up r⟩
    obtain ⟨_, _, _, _, _, _, _, z, _⟩ := fldX_exo g1.hr t1.up n
    exact ef z
end
end
end Ev
set_option Elab.async false
set_option linter.all false
set_option maxRecDepth 100000
set_option maxHeartbeats 4000000
/-! isinstance -/
namespace PySem.W
open PySem PySem.Spec PySem.Calls PyProof.Rows
section
variable {prog : Program} {w : World} {A : Around} {E : Value → Shared → Prop} {s : Shared} {K : Frag} {x D : Addr} {ox od : Obj}
theorem kin_classX {Q : Option Value → Shared → Prop} (hga : findIn K (.ref D) "__getattribute__" = some (some (.builtin "BaseException.__getattribute__"))) (hgt : findIn K (.ref D) "__getattr__" = some none) (hsub : subIn K (.ref D) (.type "BaseException") = some true)
    (hdct : hasDictIn K D = true) (ha : findIn K (.ref D) "__class__" = some (some (.builtin "object.__class__")))
    (hn : specialIn K (.builtin "object.__class__") "__get__" = some (some (.builtin "getset_descriptor.__get__"))) (htk : takesIn K (.builtin "object.__class__") = some true) (hm : mroIn K D (.type "object") = some true)
    (X : K.In s.heap) (I : InstAt s.heap x ox D (some od)) (h : Q (some (.ref D)) { s with toks := s.toks + 1 }) : wpAny (model prog w) A (getAttr? (.ref x) "__class__") Q E s := by
  have hf : findObj K D (some od) "__class__" = some (.bind (.builtin "getset_descriptor.__get__") (.builtin "object.__class__")) := findObj_data (by obtain ⟨cd, hc, _⟩ := any_some hdct; rw [hc]; rfl) ha hn htk
  obtain ⟨hp, g, d, t, os⟩ := s
  have L0 := I.type (M := model prog w)
  have L1 := looks_findIn (M := model prog w) X hga
  have L2 := looks_findIn (M := model prog w) X hgt
  have L3 := looks_find (M := model prog w) X I hf
  have sub : Looks (model prog w) hp (isInstance (.ref x) (.type "BaseException")) true := L0.andThen (looks_subIn X hsub)
  have hx0 : (false && onTheHeap (Value.builtin "BaseException.__getattribute__")) = false := rfl
  have hx2 : (Value.builtin "BaseException.__getattribute__" == Value.builtin "object.__getattribute__") = false := by decide +kernel
  have hx1 : (onTheHeap (Value.ref D) && Value.builtin "BaseException.__getattribute__" == Value.builtin "object.__getattribute__") = false := by rw [hx2]; rfl
  unfold getAttr? getAttrBy? getAttrBy
  refine wpAny_bind (wpAny_mkText (wpAny_bind (wpAny_attempt (wpAny_holding (wpAny_bind (L0.at (wpAny_bind (L1.at ?_))))))))
  show wpAny _ _ (if (onTheHeap (Value.ref D) && Value.builtin "BaseException.__getattribute__" == Value.builtin "object.__getattribute__") = true then _ else _) _ _ _
  rw [hx1, if_neg Bool.false_ne_true]
  unfold getAttrByItsOwn hookBefore
  refine wpAny_bind ?_
  rw [if_pos (show onTheHeap (Value.ref D) = true from rfl)]
  refine L2.at ?_
  refine wpAny_bind (wpAny_attempt (wpAny_holding ?_))
  unfold callGetattribute
  rw [hx0, if_neg Bool.false_ne_true]
  unfold boundAndCalled
  rw [PySem.F.excAttr_ValueError.ga.bind (.ref x)]
  refine wpAny_bind (wpAny_pure ?_)
  show wpAny _ _ (call (.builtin "BaseException.__getattribute__") [.ref x, .str "__class__" t]) _ _ _
  refine wpAny_call (codeAny_call_builtin PySem.F.excAttr_ValueError.ga.plain PySem.F.entry_bexc_ga ?_)
  refine @check_slot (model prog w) _ _ ⟨hp, g, d, t + 1, os⟩ "BaseException.__getattribute__" "BaseException" "__getattribute__" (.ref x) [.str "__class__" t] [] _ (by decide +kernel) (by decide +kernel) sub (PySem.F.args_bexc_ga (.ref x) (.str "__class__" t)) ?_
  unfold Builtin.«object.__getattribute__»
  refine wpAny_bind (wpAny_of_eq (a := ((Value.ref x : Value), [Value.str "__class__" t])) (by first | rfl | (simp only [slotArgs]; rfl)) ?_)
  refine wpAny_bind (wpAny_pure (wpAny_bind (L0.at (wpAny_bind (L3.at ?_)))))
  show wpAny _ _ (holding [Value.builtin "object.__class__"] (call (.builtin "getset_descriptor.__get__") [.builtin "object.__class__", .ref x, .ref D]) >>= ret) _ _ _
  refine wpAny_bind (wpAny_holding (wpAny_call (class_get (s := ⟨hp, g, d, t + 1, os⟩) (ox := ox) (od := some od) X I hm ?_)))
  refine wpAny_pure ?_
  show wpAny _ _ (handedOut (.ref D)) _ _ _
  rw [handedOut_of (v := .ref D) rfl]
  first
    | exact wpAny_pure (wpAny_pure h)
    | exact wpAny_pure h
    | exact wpAny_pure (wpAny_bind (wpAny_pure (wpAny_pure h)))
theorem kitx_excX (hga : findIn K (.ref D) "__getattribute__" = some (some (.builtin "BaseException.__getattribute__"))) (hgt : findIn K (.ref D) "__getattr__" = some none) (hsub : subIn K (.ref D) (.type "BaseException") = some true) (hdct : hasDictIn K D = true) (ha : findIn K (.ref D) "__class__" = some (some (.builtin "object.__class__")))
    (hn : specialIn K (.builtin "object.__class__") "__get__" = some (some (.builtin "getset_descriptor.__get__"))) (htk : takesIn K (.builtin "object.__class__") = some true) (hm : mroIn K D (.type "object") = some true) :
    KitX K (.ref x) (.ref D) (fun h => InstAt h x ox D (some od)) where
  ty := fun _ _ _ I => I.type
  it := fun _ _ X _ => by
    obtain ⟨cdD, hcD, _⟩ := any_some hdct
    unfold clsIn at hcD
    split at hcD
    · rename_i c' d' cd' sl' ho
      intro A' Q' E' s' k q
      unfold isType loadHead
      exact wpAny_bind (wpAny_loadPart (k _ _ (X _ _ ho)) (wpAny_pure q))
    · cases hcD
  ne := fun h tp dd its n sl X htp => by
    obtain ⟨cdD, hcD, _⟩ := any_some hdct
    refine Bool.eq_false_iff.mpr fun q => ?_
    have e : D = tp := Value.ref.inj (beq_iff_eq.mp q)
    subst e
    unfold clsIn at hcD
    split at hcD
    · rename_i c' d' cd' sl' ho
      have z := (X _ _ ho).symm.trans htp
      cases z
    · cases hcD
  ca := fun X I k => kin_classX hga hgt hsub hdct ha hn htk hm X I k
end
end PySem.W
namespace Ev
open PySem L2 PySem.Spec PyProof.Rows
noncomputable section
inductive Tk where
  | b (n : String) | c (i : Nat)
def isXdv : Option O → Bool
  | some (.xdv _) => true
  | _ => false
def tyO (h : Hv) : O → Option Tk
  | .lst _ => some (.b "list")
  | .dct _ => some (.b "dict")
  | .ins c _ => some (.c c)
  | .exo c d => if isXdv h[d]? = true then some (.c c) else none
  | .xdv _ => none
  | .pot _ _ => none
def tyW (w : W) (h : Hv) : Option Tk := match w with
  | .non => some (.b "NoneType")
  | .bl _ => some (.b "bool")
  | .int _ => some (.b "int")
  | .str _ => some (.b "str")
  | .tup _ => some (.b "tuple")
  | .rol _ => some (.b "list")
  | .ref i => (h[i]?).bind (tyO h)
  | _ => none
def isi2 (tab : Tk → W → Option Bool) (w c : W) : P W := fun h => match tyW w h with
    | some t => match tab t c with
      | some b => some (.bl b, h)
      | none => none
    | none => none
def isiP (tab : Tk → W → Option Bool) : List W → P W
  | [w, c] => isi2 tab w c
  | _ => P.fail
section
variable {X : Cx} {k : Kx} {Wx : WX}
def tyV (k : Kx) : Tk → Value
  | .b n => .type n
  | .c i => .ref (k.ca i)
def clsV (k : Kx) : W → Value
  | .ty n => .type n
  | .cls c => .ref (k.ca c)
  | _ => .none
/-- the table of isinstance says the truth -/
structure Isi (k : Kx) (tab : Tk → W → Option Bool) : Prop where
  wf : ∀ t w b, tab t w = some b → (∃ n, w = .ty n) ∨ (∃ c, w = .cls c)
  one : ∀ t w b, tab t w = some b → PySem.W.kitOne k.K (tyV k t) (clsV k w) = some b
  hn : PySem.W.specialIn k.K (.builtin "object.__class__") "__get__" = some (some (.builtin "getset_descriptor.__get__"))
  ht : PySem.W.takesIn k.K (.builtin "object.__class__") = some true
  ha : ∀ c, c < k.T.cn.length → PySem.W.findIn k.K (.ref (k.ca c)) "__class__" = some (some (.builtin "object.__class__"))
  hm : ∀ c, c < k.T.cn.length → PySem.W.mroIn k.K (k.ca c) (.type "object") = some true
/-- isinstance(e, c), e an exception -/
def rIsX (K : PySem.W.Frag) : List V → Hp → VK → Prop := fun xs H Q => ∃ (a C dx : Addr) (v : V) (c : V) (u : Value) (b : Bool), xs = [.ref a, c] ∧ ClsV c u ∧ H a = some (exo a C (some dx)) ∧ H dx = some (exd dx [("value", v)]) ∧ ExcC K C ∧ PySem.W.kitOne K (.ref C) u = some b ∧ Q (.bl b) H
theorem call_isX : CallR X (.builtin "isinstance") (rIsX X.K) := by
  intro pins s σ H xs us Q I r h
  obtain ⟨a, C, dx, v, c, u, b, rfl, hcv, ea, ed, T, e, q⟩ := h
  obtain ⟨u1, u2, rfl, r1, r2⟩ := vals2 r
  have e2 := hcv.eq r2
  subst e2
  obtain rfl : u1 = Value.ref a := r1
  obtain ⟨t1, ha⟩ := exo_at I.hok ea
  obtain ⟨mA, hns, hr⟩ := exd_at I.hok ed
  obtain ⟨od, ho, hl⟩ := lookIn_ns hns
  have J : PySem.W.InstAt s.heap a _ C (some od) := ⟨ha, rfl, rfl, ho⟩
  exact PySem.W.kia_one (PySem.W.kitx_excX T.hg T.hk T.hs T.hd T.ha T.hn T.ht T.hm) I.kIn J e (fun z => nomatch z) fun tk => ⟨.bl b, H, I.tok tk, rfl, q⟩
theorem b_isi {tab : Tk → W → Option Bool} {D : Addr} (hK : X.K = k.K) (C : Clss k) (E : Exs k D) (T : Isi k tab) : CallR X (.builtin "isinstance") (rPc k (isiP tab)) := call_of fun ρ h H ws xs Q hr rs t => by
  unfold isiP at t
  split at t
  · rename_i w c
    obtain ⟨v, u, rfl, r1, r2⟩ := rs.two
    unfold Tp isi2 at t
    dsimp only at t
    cases et : tyW w h with
    | none => rw [et] at t; exact False.elim t
    | some ty =>
      rw [et] at t
      dsimp only at t
      cases eb : tab ty c with
      | none => rw [eb] at t; exact False.elim t
      | some b =>
        rw [eb] at t
        have q : Q (.bl b) H := t ρ H (Go.refl hr) _ (.bl b)
        have one := T.one ty c b eb
        have hc : ClsV u (clsV k c) := by
          rcases T.wf ty c b eb with ⟨n, rfl⟩ | ⟨c, rfl⟩
          · cases r2; exact .ty n
          · cases r2; exact .own _
        rw [← hK] at one
        have base : ∀ {n : String}, ty = .b n → TyX X.K H v (.type n) → ∃ r, CallR X (.builtin "isinstance") r ∧ r [v, u] H Q := fun e z => ⟨_, call_isi, v, u, _, _, b, rfl, hc, z, by subst e; exact one, q⟩
        unfold tyW at et
        split at et
        · cases et; cases r1; exact base rfl (.base .non)
        · cases et; cases r1; exact base rfl (.base (.bl _))
        · cases et; cases r1; exact base rfl (.base (.int _))
        · cases et; cases r1; exact base rfl (.base (.str _))
        · cases et
          cases r1 with
          | tup s z =>
            rcases s with (s | ⟨o, s⟩) | s
            · exact base rfl (.base (.tup s))
            · exact base rfl (.fTuple s)
            · obtain ⟨o, its, n, s, s2, _⟩ := s
              exact base rfl (.kTuple (by rw [hK]; exact s) s2)
        · cases et
          cases r1 with
          | rol s z =>
            rcases s with ⟨o, s⟩ | ⟨o, its, n, s, s2, _⟩
            · exact base rfl (.base (.frz s))
            · exact base rfl (.kList (by rw [hK]; exact s) s2)
        · rename_i i
          obtain ⟨o, eo, et⟩ := Option.bind_eq_some_iff.mp et
          cases o with
          | lst xs =>
            cases et
            obtain ⟨a, vs, rfl, _, q2, _⟩ := RW.list hr r1 eo
            exact base rfl (.base (.lst q2))
          | dct xs =>
            cases et
            obtain ⟨a, kv', rfl, _, q2, _⟩ := RW.dict hr r1 eo
            exact base rfl (.base (.dK q2))
          | ins c' xs =>
            cases et
            obtain ⟨hc', a, dx, fs', rfl, _, q2, _⟩ := RW.inst hr r1 eo
            exact ⟨_, call_isi, _, u, _, _, b, rfl, hc, .base (.ins q2 (by rw [hK]; exact C.cls c' hc') (by rw [hK]; exact T.ha c' hc') (by rw [hK]; exact T.hn) (by rw [hK]; exact T.ht) (by rw [hK]; exact T.hm c' hc')), one, q⟩
          | pot _ _ => cases et
          | exo c' d =>
            obtain ⟨⟨h1, h2⟩, a, dx, rfl, ea, ed, q2⟩ := RW.exo hr r1 eo
            by_cases ex : isXdv h[d]? = true
            · have et : (if isXdv h[d]? = true then some (Tk.c c') else none) = some ty := et
              rw [if_pos ex] at et
              cases et
              unfold isXdv at ex
              split at ex
              · rename_i w' e2
                obtain ⟨v', q3, r'⟩ := hr.obj d dx _ ed e2
                exact ⟨_, call_isX, a, _, dx, v', u, _, b, rfl, hc, q2, q3, by rw [hK]; exact E.i c' h1 h2, one, q⟩
              · cases ex
            · have et : (if isXdv h[d]? = true then some (Tk.c c') else none) = some ty := et
              rw [if_neg ex] at et
              cases et
          | xdv _ => cases et
        · cases et
  · exact t.fail.elim
end
end
end Ev
set_option Elab.async false
set_option linter.all false
set_option maxRecDepth 100000
namespace Ev
open PySem L2 PySem.Spec PyProof.Rows
noncomputable section

/-! ### values that are surely equal -/
def flatE : W → W → Bool
  | .non, .non => true
  | .int i, .int j => decide (i = j)
  | .bl i, .bl j => decide (i = j)
  | .str i, .str j => decide (i = j)
  | _, _ => false
def sEqB (f : W → W → Bool) : W → W → Bool
  | .ref i, .ref j => decide (i = j)
  | .tup xs, .tup ys => decide (xs.length = ys.length) && (xs.zip ys).all fun p => f p.1 p.2
  | _, _ => false
def sEq : Nat → W → W → Bool
  | 0, _, _ => false
  | n + 1, a, b => flatE a b || sEqB (sEq n) a b
def notTy : W → Bool
  | .ty _ => false
  | .atm => false
  | _ => true
def nodupK : List L2.Key → Bool
  | [] => true
  | x :: xs => !(xs.any fun y => decide (y = x)) && nodupK xs
/-- an object and itself -/
def selfO (h : Hv) : O → Bool
  | .lst xs => xs.all notTy
  | .dct kvs => nodupK (kvs.map (·.1)) && (kvs.map (·.2)).all notTy
  | .exo _ d => isXdv h[d]?
  | _ => false
def sureO (a b : W) (h : Hv) : Bool := match a, b with
  | .tup xs, .tup ys => sEqB (sEq 8) (.tup xs) (.tup ys)
  | .ref i, .ref j => decide (i = j) && (match h[i]? with
    | some o => selfO h o
    | none => false)
  | _, _ => false
/-- lists of unlike lengths -/
def lenO : Option O → Option Nat
  | some (.lst xs) => some xs.length
  | _ => none
def lenNe (a b : W) (h : Hv) : Bool := match a, b with
  | .ref i, .ref j => match lenO h[i]?, lenO h[j]? with
    | some n, some m => !(Nat.beq n m)
    | _, _ => false
  | _, _ => false
theorem lenO_ok {o : Option O} {n : Nat} (e : lenO o = some n) : ∃ xs, o = some (.lst xs) ∧ xs.length = n := by
  unfold lenO at e
  split at e
  · cases e; exact ⟨_, rfl, rfl⟩
  · cases e
theorem lenNe_ok {a b : W} {h : Hv} (e : lenNe a b h = true) : ∃ i j xs ys, a = .ref i ∧ b = .ref j ∧ h[i]? = some (.lst xs) ∧ h[j]? = some (.lst ys) ∧ xs.length ≠ ys.length := by
  unfold lenNe at e
  split at e
  · split at e
    · rename_i n m e1 e2
      obtain ⟨xs, f1, rfl⟩ := lenO_ok e1
      obtain ⟨ys, f2, rfl⟩ := lenO_ok e2
      refine ⟨_, _, xs, ys, rfl, rfl, f1, f2, fun z => ?_⟩
      rw [z] at e
      simp at e
    · cases e
  · cases e
def eqX (a b : W) : P W := fun h => match eqO a b h with
  | some r => some (.bl r, h)
  | none => if sureO a b h = true then some (.bl true, h) else if lenNe a b h = true then some (.bl false, h) else none

def DSame : Eqv := fun x y _ => ∃ a, x = .ref a ∧ y = .ref a
def DS (K : PySem.W.Frag) : Nat → Eqv
  | 0 => fun _ _ _ => False
  | n + 1 => fun x y H => (DFlat x y H ∨ DSame x y H) ∨ DTup K (DS K n) x y H
section
variable {X : Cx} {k : Kx} {Wx : WX}
theorem eqG_same : EqG X 0 DSame := by
  intro A pins s σ H x y u v sb I rx ry d
  obtain ⟨a, rfl, rfl⟩ := d
  cases rx
  cases ry
  exact SeqAt.EqAt.same (A := A) (s := s) (.ref a) X.prog X.w X.xe _ ⟨rfl, H, I, Ext.rfl'⟩
theorem mon_DS {K : PySem.W.Frag} : ∀ n, Mon (DS K n)
  | 0 => fun _ _ _ _ _ d => d
  | n + 1 => Mon.or (Mon.or mon_flat fun _ _ _ _ _ d => d) (mon_tup (mon_DS n))
theorem eqG_DS : ∀ n, EqG X n (DS X.K n)
  | 0 => fun A pins s σ H x y u v sb I rx ry d => False.elim d
  | n + 1 => EqG.or ((EqG.or eqG_flat eqG_same).mono (Nat.zero_le _)) (eqG_tup (mon_DS n) (eqG_DS n))
theorem flatE_ok {ρ : List Addr} {H : Hp} {a b : W} {x y : V} (r1 : k.RW ρ H a x) (r2 : k.RW ρ H b y) (e : flatE a b = true) : DFlat x y H := by
  unfold flatE at e
  split at e
  · cases r1; cases r2; exact ⟨rfl, rfl, rfl⟩
  · cases r1; cases r2; exact ⟨rfl, rfl, by simp [eqV]; exact of_decide_eq_true e⟩
  · cases r1; cases r2; exact ⟨rfl, rfl, by simp [eqV]; exact of_decide_eq_true e⟩
  · cases r1; cases r2; exact ⟨rfl, rfl, by simp [eqV]; exact of_decide_eq_true e⟩
  · cases e
theorem RWs.getI {ρ : List Addr} {H : Hp} : ∀ {ws : List W} {vs : List V} {i : Nat} {v : V}, k.RWs ρ H ws vs → vs[i]? = some v → ∃ w, ws[i]? = some w ∧ k.RW ρ H w v
  | _, _, _, _, .nil, e => by simp at e
  | _, _, 0, _, .cons r _, e => by simp at e; subst e; exact ⟨_, rfl, r⟩
  | _, _, i + 1, v, .cons _ s, e => by
    obtain ⟨w, h1, h2⟩ := RWs.getI (i := i) (v := v) s (by simpa using e)
    exact ⟨w, by simpa using h1, h2⟩
theorem sTup {n : Nat} (ih : ∀ {a b : W} {x y : V} {ρ : List Addr} {H : Hp}, k.RW ρ H a x → k.RW ρ H b y → sEq n a b = true → DS k.K n x y H) {ρ : List Addr} {H : Hp} {xs ys : List W} {x y : V} (r1 : k.RW ρ H (.tup xs) x) (r2 : k.RW ρ H (.tup ys) y)
    (e : (decide (xs.length = ys.length) && (xs.zip ys).all fun p => sEq n p.1 p.2) = true) : DTup k.K (DS k.K n) x y H := by
  obtain ⟨e1, e2⟩ := Bool.and_eq_true_iff.mp e
  cases r1 with
  | tup s1 q1 =>
    cases r2 with
    | tup s2 q2 =>
      refine ⟨_, _, _, _, rfl, rfl, s1, s2, by rw [← q1.length, ← q2.length]; exact of_decide_eq_true e1, fun i x y h1 h2 => ?_⟩
      obtain ⟨w1, g1, z1⟩ := RWs.getI q1 h1
      obtain ⟨w2, g2, z2⟩ := RWs.getI q2 h2
      have m : (w1, w2) ∈ xs.zip ys := by
        refine List.mem_of_getElem? (i := i) ?_
        rw [List.getElem?_zip_eq_some]
        exact ⟨g1, g2⟩
      exact ih z1 z2 (List.all_eq_true.mp e2 _ m)
theorem sEq_ok : ∀ {n : Nat} {a b : W} {x y : V} {ρ : List Addr} {H : Hp}, k.RW ρ H a x → k.RW ρ H b y → sEq n a b = true → DS k.K n x y H
  | 0, _, _, _, _, _, _, _, _, e => by cases e
  | n + 1, a, b, x, y, ρ, H, r1, r2, e => by
    have e : (flatE a b || sEqB (sEq n) a b) = true := e
    rw [Bool.or_eq_true] at e
    rcases e with e | e
    · exact .inl (.inl (flatE_ok r1 r2 e))
    · unfold sEqB at e
      split at e
      · have : _ = _ := of_decide_eq_true e
        subst this
        cases r1 with
        | ref e1 =>
          cases r2 with
          | ref e2 => rw [e1] at e2; cases e2; exact .inl (.inr ⟨_, rfl, rfl⟩)
      · exact .inr (sTup sEq_ok r1 r2 e)
      · cases e
theorem HR.ext {ρ : List Addr} {h : Hv} {H H' : Hp} (hr : k.HR ρ h H) (e : Ext H H') : k.Go ρ H ρ h H' := by
  refine ⟨⟨hr.len, hr.nd, fun i a o e1 e2 => ?_, fun b o h0 => ⟨e b o (hr.base b o h0).1, (hr.base b o h0).2⟩⟩, ⟨[], by simp⟩, fun b h1 h2 => absurd h1 h2, fun b o h _ => e b o h⟩
  have q := hr.obj i a o e1 e2
  have k2 : ∀ a vs, SqT k.K H a vs → SqT k.K H' a vs := fun a vs s => s.ext e
  have k3 : ∀ a vs, RoL k.K H a vs → RoL k.K H' a vs := fun a vs s => s.elim (fun ⟨o, s⟩ => .inl ⟨o, e _ _ s⟩) .inr
  cases o with
  | lst xs => obtain ⟨vs, q, s⟩ := q; exact ⟨vs, e _ _ q, s.mono (fun _ _ e => e) k2 k3⟩
  | dct kvs => obtain ⟨kv, q, z, s⟩ := q; exact ⟨kv, e _ _ q, z, s.mono (fun _ _ e => e) k2 k3⟩
  | ins c fs => obtain ⟨hc, dx, fs', q, z, s⟩ := q; exact ⟨hc, dx, fs', e _ _ q, z, s.mono (fun _ _ e => e) k2 k3⟩
  | xdv w => obtain ⟨v, q, s⟩ := q; exact ⟨v, e _ _ q, s.mono (fun _ _ e => e) k2 k3⟩
  | exo c d => obtain ⟨hc, dx, z, q⟩ := q; exact ⟨hc, dx, z, e _ _ q⟩
  | pot q1 r1 => obtain ⟨x, y, z, q, s⟩ := q; exact ⟨x, y, z, e _ _ q, s⟩
theorem self_v {ρ : List Addr} {H : Hp} {w : W} {v : V} (r : k.RW ρ H w v) (e : notTy w = true) : EqV X.K H 1 v v := by
  cases r with
  | non => exact .inl ⟨rfl, rfl⟩
  | bl _ => exact .inl ⟨rfl, rfl⟩
  | int _ => exact .inl ⟨rfl, rfl⟩
  | str _ => exact .inl ⟨rfl, rfl⟩
  | tup _ _ => exact .inr (.inl ⟨_, rfl, rfl⟩)
  | rol _ _ => exact .inr (.inl ⟨_, rfl, rfl⟩)
  | ref _ => exact .inr (.inl ⟨_, rfl, rfl⟩)
  | ty _ => cases e
  | atm => cases e
  | scr _ => exact .inr (.inl ⟨_, rfl, rfl⟩)
  | cls _ => exact .inr (.inl ⟨_, rfl, rfl⟩)
theorem self_vs {ρ : List Addr} {H : Hp} : ∀ {ws : List W} {vs : List V}, k.RWs ρ H ws vs → ws.all notTy = true → Paired (EqV X.K H 1) vs vs
  | _, _, .nil, _ => .nil
  | _, _, .cons r s, e => by
    rw [List.all_cons, Bool.and_eq_true] at e
    exact .cons (self_v r e.1) (self_vs s e.2)
theorem val_self : ∀ {kvs : List (L2.Key × V)}, nodupK (kvs.map (·.1)) = true → ∀ p ∈ kvs, valV kvs p.1 = some p.2
  | [], _, p, h => by cases h
  | q :: kvs, e, p, h => by
    simp only [List.map_cons, nodupK, Bool.and_eq_true, Bool.not_eq_true'] at e
    obtain ⟨e1, e2⟩ := e
    unfold valV
    rw [List.find?_cons]
    rcases List.mem_cons.mp h with rfl | h
    · simp
    · have ne : ¬ q.1 = p.1 := fun z => by
        have : (List.map (·.1) kvs).any (fun y => decide (y = q.1)) = true := List.any_eq_true.mpr ⟨p.1, List.mem_map_of_mem h, by simp [z]⟩
        rw [e1] at this; cases this
      simp only [ne, decide_false]
      exact val_self e2 p h
/-- an exception and itself -/
def rSelfX (K : PySem.W.Frag) : R2 := fun x y H Q => ∃ (a C dx : Addr) (v : V), x = .ref a ∧ y = .ref a ∧ H a = some (exo a C (some dx)) ∧ H dx = some (exd dx [("value", v)]) ∧ PySem.W.mroIn K C (.type "object") = some true ∧ PySem.W.findIn K (.ref C) "__eq__" = some (some (.builtin "object.__eq__")) ∧ Q (.bl true) H
theorem op_selfX (hu : X.A.units + 64 < cLine) : OpR X (compareOp .Eq) (rSelfX X.K) := by
  intro pins s σ H x y v u Q I rx ry h
  obtain ⟨a, C, dx, v', rfl, rfl, ea, ed, hm, hs, q⟩ := h
  cases (show v = Value.ref a from rx)
  cases (show u = Value.ref a from ry)
  obtain ⟨t1, ha⟩ := exo_at I.hok ea
  obtain ⟨mA, hns, hr⟩ := exd_at I.hok ed
  obtain ⟨od, ho, hl⟩ := lookIn_ns hns
  have J : PySem.W.InstAt s.heap a _ C (some od) := ⟨ha, rfl, rfl, ho⟩
  show wpAny (model X.prog X.w) X.A (richCompare .Eq (.ref a) (.ref a)) (EP X pins σ Q) X.xe s
  have one : wpAny (model X.prog X.w) X.A (tryCompare (.ref a) "__eq__" (.ref a)) (fun r s' => r = some (.bool true) ∧ s' = s) X.xe s := by
    unfold tryCompare
    refine wpAny_bind (HN.ifBound_objEq I.kIn J hs ?_)
    exact wpAny_call (codeAny_call_builtin F.cmp_object.eq.plain F.cmpEntry_eq (PySem.W.check_slot F.cmpKind_eq F.cmpSplit_eq (J.type.andThen (PySem.W.looks_mroIn I.kIn hm)) (F.cmpArgs_eq _ _) (objEq_entry_same (wpAny_pure ⟨rfl, rfl⟩))))
  simp only [richCompare, cmpInfo_Eq, oneThing_ref]
  refine wpAny_holding (wpAny_bind (wpAny_cRoomFor (by omega) ?_))
  refine wpAny_bind (J.type.here (wpAny_bind (J.type.here ?_)))
  split
  · rename_i z
    simp at z
  · refine wpAny_bind (wpAny_pure ?_)
    simp only [Bool.false_eq_true, if_false]
    refine wpAny_bind (wpAny_mono one (fun r s' z => ?_) fun _ _ e => e)
    obtain ⟨rfl, rfl⟩ := z
    exact wpAny_pure ⟨.bl true, H, I, rfl, q⟩
/-- lists of unlike lengths -/
def rEqLen (K : PySem.W.Frag) : R2 := fun x y H Q => ∃ (a b : Addr) (xs ys : List V), x = .ref a ∧ y = .ref b ∧ SqL K H a xs ∧ SqL K H b ys ∧ xs.length ≠ ys.length ∧ Q (.bl false) H
theorem op_eqLen (hu : X.A.units < cLine) : OpR X (compareOp .Eq) (rEqLen X.K) := by
  intro pins s σ H x y v u Q I rx ry h
  obtain ⟨a, b, xs, ys, rfl, rfl, h1, h2, hn, q⟩ := h
  cases (show v = Value.ref a from rx)
  cases (show u = Value.ref b from ry)
  obtain ⟨its, r1, p1, _⟩ := I.list h1
  obtain ⟨its2, r2, p2, _⟩ := I.list h2
  refine SeqAt.eq_list_lengthsAt p1.isList p2.isList ?_ hu ⟨.bl false, H, I, rfl, q⟩
  rw [List.size_toArray, List.size_toArray, ← r1.length, ← r2.length]
  simpa using hn
/-- what exceptions need for == -/
structure ExEq (k : Kx) : Prop where
  e : ∀ c, k.T.cn.length ≤ c → c < k.T.cn.length + k.T.xn → PySem.W.findIn k.K (.ref (k.ca c)) "__eq__" = some (some (.builtin "object.__eq__"))
theorem o_eqX {D : Addr} (hr : Room 20 X.A) (hK : X.K = k.K) (E : Exs k D) (EE : ExEq k) : OpR X (compareOp .Eq) (rP2 k eqX) := op_of fun ρ h H a b x y Q hr' r1 r2 t => by
  have hu : X.A.units + 64 < cLine := hr.units
  unfold Tp eqX at t
  dsimp only at t
  cases e : eqO a b h with
  | some r =>
    rw [e] at t
    have t' : Tp k ρ h H (eqW a b) fun ρ' _ H' w => ∀ v, k.RW ρ' H' w v → Q v H' := by
      unfold Tp eqW; rw [e]; exact t
    exact ⟨_, o_eq hu hK, ρ, h, a, b, hr', r1, r2, t'⟩
  | none =>
    rw [e] at t
    dsimp only at t
    by_cases c : sureO a b h = true
    · rw [if_pos c] at t
      have q : ∀ H', Ext H H' → Q (.bl true) H' := fun H' e => t ρ H' (hr'.ext e) _ (.bl true)
      unfold sureO at c
      split at c
      · have d := sTup sEq_ok r1 r2 c
        rw [← hK] at d
        exact ⟨_, op_eqG (rcG_tup (mon_DS 8) (eqG_DS 8)) (hr.mono (by omega)), d, q⟩
      · obtain ⟨c1, c2⟩ := Bool.and_eq_true_iff.mp c
        have := of_decide_eq_true c1
        subst this
        split at c2
        · rename_i o eo
          cases o with
          | lst xs =>
            obtain ⟨p, vs, rfl, ep, q2, q3⟩ := RW.list hr' r1 eo
            cases r2 with
            | ref e2 =>
              rw [ep] at e2; cases e2
              exact ⟨_, op_eqV hu, 1, by omega, .inl ⟨p, p, vs, vs, rfl, rfl, SqL.of q2, SqL.of q2, self_vs q3 c2⟩, q H Ext.rfl'⟩
          | dct kvs =>
            obtain ⟨p, kv', rfl, ep, q2, q3, q4⟩ := RW.dict hr' r1 eo
            obtain ⟨d1, d2⟩ := Bool.and_eq_true_iff.mp c2
            cases r2 with
            | ref e2 =>
              rw [ep] at e2; cases e2
              refine ⟨_, op_eqV hu, 1, by omega, .inr ⟨p, p, kv', kv', rfl, rfl, q2, q2, rfl, fun z hz => ⟨z.2, val_self (by rw [q3]; exact d1) z hz, ?_⟩⟩, q H Ext.rfl'⟩
              obtain ⟨i, hi, ez⟩ := List.mem_iff_getElem.mp (List.mem_map_of_mem (f := (·.2)) hz)
              obtain ⟨w, g1, g2⟩ := RWs.getI q4 (List.getElem?_eq_some_iff.mpr ⟨hi, ez⟩)
              exact self_v g2 (List.all_eq_true.mp d2 w (List.mem_of_getElem? g1))
          | exo c d =>
            obtain ⟨⟨h1, h2⟩, p, dx, rfl, ep, ed, q2⟩ := RW.exo hr' r1 eo
            cases r2 with
            | ref e2 =>
              rw [ep] at e2; cases e2
              have ex : isXdv h[d]? = true := c2
              unfold isXdv at ex
              split at ex
              · rename_i w' e2
                obtain ⟨v', q3, r'⟩ := hr'.obj d dx _ ed e2
                exact ⟨_, op_selfX hu, p, _, dx, v', rfl, rfl, q2, q3, by rw [hK]; exact (E.i c h1 h2).hm, by rw [hK]; exact EE.e c h1 h2, q H Ext.rfl'⟩
              · cases ex
          | ins _ _ => cases c2
          | pot _ _ => cases c2
          | xdv _ => cases c2
        · cases c2
      · cases c
    · rw [if_neg c] at t
      by_cases c' : lenNe a b h = true
      · rw [if_pos c'] at t
        obtain ⟨i, j, xs, ys, rfl, rfl, e1, e2, hn⟩ := lenNe_ok c'
        obtain ⟨p, vs, rfl, _, q1, s1⟩ := RW.list hr' r1 e1
        obtain ⟨p', vs', rfl, _, q2, s2⟩ := RW.list hr' r2 e2
        exact ⟨_, op_eqLen (by omega), p, p', vs, vs', rfl, rfl, SqL.of q1, SqL.of q2, by rw [← s1.length, ← s2.length]; exact hn, t ρ H (Go.refl hr') _ (.bl false)⟩
      · rw [if_neg c'] at t; exact False.elim t
end
end
end Ev
set_option Elab.async false
set_option linter.all false
set_option maxRecDepth 100000
namespace Ev
open PySem L2 PySem.Spec PyProof.Rows
noncomputable section
/-! ### the text's own == -/
/-- what raises is no answer here -/
def noX {α : Type} (m : M α) : M α := fun h => match m h with
  | .ok a h' => .ok a h'
  | _ => .err
def isBl : W → Bool
  | .bl _ => true
  | _ => false
/-- own: the own __eq__ of each class -/
def ownSel (own : Nat → Option (List W → M W)) (a b : W) (h : Hv) : Option (Option (List W → M W)) := match a, b with
  | .ref i, .ref j => match h[i]?, h[j]? with
    | some (.ins c _), some (.ins c' _) => if c = c' then some (own c) else some none
    | _, _ => none
  | _, _ => none
def ownRun (m : List W → M W) (a b : W) : M W := noX (do let r ← m [a, b]; if isBl r then pure r else M.err)
def eqM (own : Nat → Option (List W → M W)) (a b : W) : M W := fun h => match isAtm a && isAtm b with
  | true => .ok (.bl true) h
  | false => match ownSel own a b h with
    | none => (eqX a b).up h
    | some none => .err
    | some (some m) => ownRun m a b h
/-- an opaque value equals itself -/
def AtEq (X : Cx) (k : Kx) : Prop := OpR X (compareOp .Eq) fun x y H Q => x = k.ca.av ∧ y = k.ca.av ∧ (∀ b o, k.ca.H0 b = some o → H b = some o) ∧ ∀ H', Ext H H' → Q (.bl true) H'
theorem isAtm_ok {w : W} (e : isAtm w = true) : w = .atm := by
  cases w <;> first | rfl | cases e
def evEqM (own : Nat → Option (List W → M W)) (a b : EE) : EE := fun env => do let x ← a env; let y ← b env; eqM own x y
def rP2M (k : Kx) (f : W → W → M W) : R2 := fun x y H Q => ∃ ρ h a b, k.HR ρ h H ∧ k.RW ρ H a x ∧ k.RW ρ H b y ∧ Tm k (fun _ _ _ _ => False) [] ρ h H (f a b) fun ρ' _ H' w => ∀ v, k.RW ρ' H' w v → Q v H'
section
variable {X : Cx} {k : Kx} {Wx : WX}
theorem Tm.noX {α : Type} {m : M α} {σ : L2.St} {ρ : List Addr} {h : Hv} {H : Hp} {R : List Addr → Hv → Hp → α → Prop} (t : Tm k Wx σ ρ h H (noX m) R) {Wx' : WX} {σ' : L2.St} : Tm k Wx' σ' ρ h H m R := by
  unfold Tm Ev.noX at t
  unfold Tm
  cases q : m h with
  | ask n f => rw [q] at t; exact False.elim t
  | err => rw [q] at t; exact t
  | exc c v h' => rw [q] at t; exact False.elim t
  | ok a h1 => rw [q] at t; exact t
/-- it raises nothing, it draws nothing -/
def Calm {α : Type} : Res α → Prop
  | .ok _ _ => True
  | .err => True
  | _ => False
theorem eqM_calm {own : Nat → Option (List W → M W)} {a b : W} {h : Hv} : Calm (eqM own a b h) := by
  have up : ∀ {p : P W}, Calm (p.up h) := fun {p} => by
    unfold P.up
    cases p h with
    | none => trivial
    | some r => trivial
  unfold eqM
  split
  · trivial
  · split
    · exact up
    · trivial
    · unfold ownRun Ev.noX
      split <;> trivial
theorem ownSel_ok {own : Nat → Option (List W → M W)} {a b : W} {h : Hv} {m : List W → M W} (e : ownSel own a b h = some (some m)) : ∃ i j c fs fs', a = .ref i ∧ b = .ref j ∧ h[i]? = some (.ins c fs) ∧ h[j]? = some (.ins c fs') ∧ own c = some m := by
  unfold ownSel at e
  split at e
  · split at e
    · rename_i e1 e2
      split at e
      · rename_i ec
        subst ec
        exact ⟨_, _, _, _, _, rfl, rfl, e1, e2, Option.some.inj e⟩
      · cases e
    · cases e
  · cases e
theorem Tm.calm {m : M W} {σ : L2.St} {ρ : List Addr} {h : Hv} {H : Hp} {R : List Addr → Hv → Hp → W → Prop} (n : Calm (m h)) (t : Tm k Wx σ ρ h H m R) {Wx' : WX} {σ' : L2.St} : Tm k Wx' σ' ρ h H m R := by
  unfold Tm at t ⊢
  cases q : m h with
  | err => rw [q] at t; exact t
  | exc c v h' => rw [q] at n; exact n.elim
  | ask _ _ => rw [q] at n; exact n.elim
  | ok a h1 => rw [q] at t; exact t
theorem c_eqM {own : Nat → Option (List W → M W)} {a b : Expr} {ea eb : EE} {op : CmpOp} {pos : Pos} (ho : OpR X (compareOp op) (rP2M k (eqM own))) (ha : PE X a (tE k Wx ea)) (hb : PE X b (tE k Wx eb)) (hm : behindInMarks op b = false) : PE X (.Compare a [op] [b] pos) (tE k Wx (evEqM own ea eb)) := by
  refine (pe_cmpR ho ha hb hm).imp fun σ H Q ⟨ρ, env, h, S, t⟩ => ⟨ρ, env, h, S, t.bind.mono fun ρ1 h1 H1 wa g1 t1 v1 r1 => ?_⟩
  refine ⟨ρ1, env, h1, ⟨g1.hr, g1.en S.hr S.en⟩, t1.bind.mono fun ρ2 h2 H2 wb g2 t2 v2 r2 => ?_⟩
  exact ⟨ρ2, h2, wa, wb, g2.hr, g2.rw g1.hr r1, r2, t2.calm eqM_calm⟩
/-- an own == of the class at C -/
def rOwnEq (X : Cx) (C f : Addr) (sp : Sp) (E : XK) : R2 := fun x y H Q => ∃ a b dx dy fs gs, x = .ref a ∧ y = .ref b ∧ H a = some (.ins C dx fs) ∧ H b = some (.ins C dy gs) ∧ sp [x, y] H (fun v H' => (∃ r, v = .bl r) ∧ Q v H') E
theorem op_ownEq {CX : CXT} {n : Nat} {C f : Addr} {fd : FuncData} {ps : List Str} {sp : Sp} {E : XK} (F : FnOk X.prog X.w X.K X.mg X.base CX n f fd ps sp) (hr : Room n X.A)
    (hs : PySem.W.findIn X.K (.ref C) "__eq__" = some (some (.ref f))) (hf : PySem.W.isFn X.K (.ref f) = true) (hb : L2.Binds X.K fd ps []) (hx : Passes CX X E) : OpR X (compareOp .Eq) (rOwnEq X C f sp E) := by
  intro pins s σ H x y v u Q I rx ry h
  obtain ⟨a, b, dx, dy, fs, gs, rfl, rfl, ha, hb', hsp⟩ := h
  cases (show v = Value.ref a from rx)
  cases (show u = Value.ref b from ry)
  obtain ⟨mA, J, _⟩ := ins_get I.hok ha
  obtain ⟨mB, J', _⟩ := ins_get I.hok hb'
  obtain ⟨od, J, _⟩ := J.look
  obtain ⟨od', J', _⟩ := J'.look
  obtain ⟨m, hF⟩ := I.fr
  show wpAny (model X.prog X.w) X.A (richCompare .Eq (.ref a) (.ref b)) (EP X pins σ Q) X.xe s
  refine PySem.W.cmp_K (op := .Eq) (tb := .ref C) hr.units0 hF I.ok.mod.kin J J'.type (by simp [PySem.W.notFirst]) hs hf ?_
  have hl := F.len _ _ _ _ hsp
  have r2 : Vals [V.ref a, V.ref b] [Value.ref a, Value.ref b] := .cons rfl (.cons rfl .nil)
  refine wpAny_call (codeAny_mono (F.run X.A X.stack s H ⟨[.ref a, .ref b], []⟩ [.ref a, .ref b] [.ref a, .ref b] _ E hr I.env0 (by
    have := hb s [.ref a, .ref b] I.kIn (by simpa using hl)
    simpa using this) r2 hsp) fun r s' hq => ?_)
  cases r with
  | error e => exact hx pins σ H s e s' I hq
  | ok fl =>
    cases fl with
    | ret w =>
      obtain ⟨z, H', I', rz, ⟨r, ez⟩, ex⟩ := I.after hq
      subst ez
      cases (show w = Value.bool r from rz)
      exact ⟨.bl r, H', I', rfl, ex⟩
    | next => exact False.elim hq
    | brk => exact False.elim hq
    | cont => exact False.elim hq
/-- what stands behind the table of own == -/
def OwnOk (X : Cx) (k : Kx) (d : Nat) (own : Nat → Option (List W → M W)) : Prop := ∀ c m, own c = some m → ∃ f fd ps, FnOk X.prog X.w X.K X.mg X.base (CX X.prog X.w) d f fd ps (spM k 2 m) ∧ PySem.W.findIn X.K (.ref (k.ca c)) "__eq__" = some (some (.ref f)) ∧ PySem.W.isFn X.K (.ref f) = true ∧ L2.Binds X.K fd ps []
theorem o_eqM {D : Addr} {d : Nat} {own : Nat → Option (List W → M W)} (tk : Takes X Wx) (hr : Room 20 X.A) (hrd : Room d X.A) (hK : X.K = k.K) (E : Exs k D) (EE : ExEq k) (O : OwnOk X k d own) (AE : AtEq X k) : OpR X (compareOp .Eq) (rP2M k (eqM own)) := by
  intro pins s σ H x y v u Q I rx ry ⟨ρ, h, a, b, hr', r1, r2, t⟩
  have usual : (Tm k (fun _ _ _ _ => False) [] ρ h H (eqX a b).up fun ρ' _ H' w => ∀ v, k.RW ρ' H' w v → Q v H') → wpAny (model X.prog X.w) X.A (compareOp .Eq v u) (EP X pins σ Q) X.xe s := fun t =>
    o_eqX hr hK E EE pins s σ H x y v u Q I rx ry ⟨ρ, h, a, b, hr', r1, r2, t.up⟩
  unfold Tm eqM at t
  cases ea : isAtm a && isAtm b with
  | true =>
    rw [ea] at t
    obtain ⟨e1, e2⟩ := Bool.and_eq_true_iff.mp ea
    have e1 := isAtm_ok e1
    have e2 := isAtm_ok e2
    subst e1 e2
    cases r1; cases r2
    exact AE pins s σ H _ _ v u Q I rx ry ⟨rfl, rfl, fun b o e => (hr'.base b o e).1, fun H' e => t ρ H' (hr'.ext e) _ (.bl true)⟩
  | false =>
  rw [ea] at t
  cases es : ownSel own a b h with
  | none => rw [es] at t; exact usual t
  | some o =>
    rw [es] at t
    cases o with
    | none => exact False.elim t
    | some m =>
      obtain ⟨i, j, c, fs, fs', rfl, rfl, e1, e2, eo⟩ := ownSel_ok es
      obtain ⟨f, fd, ps, F, hs, hf, hb⟩ := O c m eo
      obtain ⟨_, a, dx, gs, rfl, _, q1, _⟩ := RW.inst hr' r1 e1
      obtain ⟨_, b, dy, gs', rfl, _, q2, _⟩ := RW.inst hr' r2 e2
      refine op_ownEq (E := fun _ _ _ => False) F hrd hs hf hb (passes_call tk fun _ _ _ _ z => z.elim) pins s σ H _ _ v u Q I rx ry ⟨a, b, dx, dy, gs, gs', rfl, rfl, q1, q2, rfl, ρ, h, _, hr', .cons r1 (.cons r2 .nil), ?_⟩
      have t' : Tm k (fun _ _ _ _ => False) [] ρ h H (ownRun m (.ref i) (.ref j)) fun ρ' _ H' w => ∀ v, k.RW ρ' H' w v → Q v H' := t
      refine (t'.noX (Wx' := fun _ _ _ _ => False) (σ' := [])).bind.mono fun ρ1 h1 H1 w g1 t1 v r => ?_
      cases w with
      | bl bb => cases r; exact ⟨⟨_, rfl⟩, t1.pure g1.hr _ (.bl _)⟩
      | non => exact False.elim t1
      | int _ => exact False.elim t1
      | str _ => exact False.elim t1
      | tup _ => exact False.elim t1
      | rol _ => exact False.elim t1
      | ref _ => exact False.elim t1
      | ty _ => exact False.elim t1
      | cls _ => exact False.elim t1
      | atm => exact False.elim t1
      | scr => exact False.elim t1
end
end
end Ev
set_option Elab.async false
set_option linter.all false
set_option maxRecDepth 100000
namespace Ev
open PySem L2 PySem.Spec PyProof.Rows
noncomputable section
section
variable {X : Cx} {k : Kx} {Wx : WX}
theorem o_eqXE {D : Addr} (hr : Room 20 X.A) (hK : X.K = k.K) (E : Exs k D) (EE : ExEq k) : OpR X (compareOp .Eq) fun x y H Q => ∃ ρ h a b r, k.HR ρ h H ∧ k.RW ρ H a x ∧ k.RW ρ H b y ∧ eqX a b h = some (.bl r, h) ∧ ∀ H', Ext H H' → Q (.bl r) H' := by
  intro pins s σ H x y v u Q I rx ry ⟨ρ, h, a, b, r, hr', r1, r2, t, q⟩
  suffices z : ∃ rr, OpR X (compareOp .Eq) rr ∧ rr x y H Q by
    obtain ⟨rr, ho, z⟩ := z
    exact ho pins s σ H x y v u Q I rx ry z
  have hu : X.A.units + 64 < cLine := hr.units
  unfold eqX at t
  cases e : eqO a b h with
  | some r0 =>
    rw [e] at t
    have er : r0 = r := by
      injection t with t
      injection t with t _
      injection t with t
    subst er
    have t' : Tp k ρ h H (eqW a b) fun ρ' _ H' w => H' = H → ∀ v, k.RW ρ' H' w v → Q v H' := by
      unfold Tp eqW; rw [e]
      intro ρ' H' _ eh v rv
      subst eh
      cases rv
      exact q _ (fun b o h => h)
    unfold eqO at e
    cases e0 : eqS a b with
    | some r =>
      obtain ⟨s1, s2⟩ := eqS_ok r1 r2 e0
      rw [e0] at e
      cases e
      refine ⟨_, op_eq, s1, ?_⟩
      rw [s2]
      exact q _ (fun b o h => h)
    | none =>
      rw [e0] at e
      dsimp only at e
      cases e1 : toD h 9 a with
      | none => rw [e1] at e; cases e
      | some d =>
        cases e2 : toD h 9 b with
        | none => rw [e1, e2] at e; cases e
        | some d' =>
          rw [e1, e2] at e
          dsimp only at e
          by_cases c : (SeqAt.shaped d && SeqAt.shaped d') = true
          · rw [if_pos c] at e
            cases e
            obtain ⟨c1, c2⟩ := Bool.and_eq_true_iff.mp c
            exact ⟨_, op_eqD hu, d, d', by rw [hK]; exact toD_dp hr' r1 e1, by rw [hK]; exact toD_dp hr' r2 e2, c1, c2, q _ (fun b o h => h)⟩
          · rw [if_neg c] at e; cases e
  | none =>
    rw [e] at t
    dsimp only at t
    by_cases c : sureO a b h = true
    · rw [if_pos c] at t
      have er : r = true := by
        injection t with t
        injection t with t _
        injection t with t
        exact t.symm
      subst er
      unfold sureO at c
      split at c
      · have d := sTup sEq_ok r1 r2 c
        rw [← hK] at d
        exact ⟨_, op_eqG (rcG_tup (mon_DS 8) (eqG_DS 8)) (hr.mono (by omega)), d, q⟩
      · obtain ⟨c1, c2⟩ := Bool.and_eq_true_iff.mp c
        have := of_decide_eq_true c1
        subst this
        split at c2
        · rename_i o eo
          cases o with
          | lst xs =>
            obtain ⟨p, vs, rfl, ep, q2, q3⟩ := RW.list hr' r1 eo
            cases r2 with
            | ref e2 =>
              rw [ep] at e2; cases e2
              exact ⟨_, op_eqV hu, 1, by omega, .inl ⟨p, p, vs, vs, rfl, rfl, SqL.of q2, SqL.of q2, self_vs q3 c2⟩, q H Ext.rfl'⟩
          | dct kvs =>
            obtain ⟨p, kv', rfl, ep, q2, q3, q4⟩ := RW.dict hr' r1 eo
            obtain ⟨d1, d2⟩ := Bool.and_eq_true_iff.mp c2
            cases r2 with
            | ref e2 =>
              rw [ep] at e2; cases e2
              refine ⟨_, op_eqV hu, 1, by omega, .inr ⟨p, p, kv', kv', rfl, rfl, q2, q2, rfl, fun z hz => ⟨z.2, val_self (by rw [q3]; exact d1) z hz, ?_⟩⟩, q H Ext.rfl'⟩
              obtain ⟨i, hi, ez⟩ := List.mem_iff_getElem.mp (List.mem_map_of_mem (f := (·.2)) hz)
              obtain ⟨w, g1, g2⟩ := RWs.getI q4 (List.getElem?_eq_some_iff.mpr ⟨hi, ez⟩)
              exact self_v g2 (List.all_eq_true.mp d2 w (List.mem_of_getElem? g1))
          | exo c d =>
            obtain ⟨⟨h1, h2⟩, p, dx, rfl, ep, ed, q2⟩ := RW.exo hr' r1 eo
            cases r2 with
            | ref e2 =>
              rw [ep] at e2; cases e2
              have ex : isXdv h[d]? = true := c2
              unfold isXdv at ex
              split at ex
              · rename_i w' e2
                obtain ⟨v', q3, r'⟩ := hr'.obj d dx _ ed e2
                exact ⟨_, op_selfX hu, p, _, dx, v', rfl, rfl, q2, q3, by rw [hK]; exact (E.i c h1 h2).hm, by rw [hK]; exact EE.e c h1 h2, q H Ext.rfl'⟩
              · cases ex
          | ins _ _ => cases c2
          | pot _ _ => cases c2
          | xdv _ => cases c2
        · cases c2
      · cases c
    · rw [if_neg c] at t
      by_cases c' : lenNe a b h = true
      · rw [if_pos c'] at t
        have er : r = false := by
          injection t with t
          injection t with t _
          injection t with t
          exact t.symm
        subst er
        obtain ⟨i, j, xs, ys, rfl, rfl, e1, e2, hn⟩ := lenNe_ok c'
        obtain ⟨p, vs, rfl, _, q1, s1⟩ := RW.list hr' r1 e1
        obtain ⟨p', vs', rfl, _, q2, s2⟩ := RW.list hr' r2 e2
        exact ⟨_, op_eqLen (by omega), p, p', vs, vs', rfl, rfl, SqL.of q1, SqL.of q2, by rw [← s1.length, ← s2.length]; exact hn, q H (fun b o h => h)⟩
      · rw [if_neg c'] at t; cases t
end
end
end Ev
set_option Elab.async false
set_option linter.all false
set_option maxRecDepth 100000
namespace Ev
open PySem L2
noncomputable section
/-! ### dict comprehensions -/
def dcP (acc : List (L2.Key × W)) (kw y : W) : Option (List (L2.Key × W)) := if acc.length < sizeLine then (keyW kw).map (dputW acc · y) else none
def dcL (s : Src) (g : TgE) (c : ET) (ek e : EE) (env0 : En) : Nat → Nat → List (L2.Key × W) → M (List (L2.Key × W))
  | 0, _, _ => M.err
  | n + 1, i, acc => do
    let h ← M.heap
    match s i h with
    | none => M.err
    | some none => pure acc
    | some (some w) => do
      let env1 ← M.of (g.st w env0)
      let t ← trB (nox (c env1))
      match t with
      | false => dcL s g c ek e env0 n (i + 1) acc
      | true => do
        let kw ← trW (nox (ek env1))
        let y ← trW (nox (e env1))
        let acc' ← M.of (dcP acc kw y)
        dcL s g c ek e env0 n (i + 1) acc'
def evDc (si : En → M (Src × Nat)) (vs : List Nat) (g : TgE) (c : ET) (ek e : EE) : EE := fun env => do
  let s ← si env
  let acc ← dcL s.1 g c ek e (wipeE env vs) s.2 0 []
  (P.new (.dct acc)).up
section
variable {X : Cx} {k : Kx} {Wx : WX}
theorem HR.besideD {ρ : List Addr} {h : Hv} {H : Hp} (hr : k.HR ρ h H) {D : Addr} {us us' : List (L2.Key × V)} (nD : D ∉ ρ) (hz : k.ca.H0 D = none) (hD : H D = some (.dK us)) : k.HR ρ h (upd H D (.dK us')) ∧ ∀ {w : W} {v : V}, k.RW ρ H w v → k.RW ρ (upd H D (.dK us')) w v := by
  have k2 : ∀ a vs, SqT k.K H a vs → SqT k.K (upd H D (.dK us')) a vs := fun a vs st => by
    rcases st with (st | ⟨o, st⟩) | st
    · exact .inl (.inl (by rw [upd_ne (fun z => by rw [z, hD] at st; cases st)]; exact st))
    · exact .inl (.inr ⟨o, by rw [upd_ne (fun z => by rw [z, hD] at st; cases st)]; exact st⟩)
    · exact .inr st
  have k3 : ∀ a vs, RoL k.K H a vs → RoL k.K (upd H D (.dK us')) a vs := fun a vs st => by
    rcases st with ⟨o, st⟩ | st
    · exact .inl ⟨o, by rw [upd_ne (fun z => by rw [z, hD] at st; cases st)]; exact st⟩
    · exact .inr st
  refine ⟨⟨hr.len, hr.nd, fun i a o e1 e2 => ?_, fun b o e => ⟨by rw [upd_ne (fun z => by rw [z, hz] at e; cases e)]; exact (hr.base b o e).1, (hr.base b o e).2⟩⟩, fun r => r.mono (fun _ _ e => e) k2 k3⟩
  have na : a ≠ D := fun z => nD (by rw [← z]; exact List.mem_of_getElem? e1)
  have q := hr.obj i a o e1 e2
  cases o with
  | lst xs => obtain ⟨vs, q, s⟩ := q; exact ⟨vs, by rw [upd_ne na]; exact q, s.mono (fun _ _ e => e) k2 k3⟩
  | dct kvs => obtain ⟨kv, q, z, s⟩ := q; exact ⟨kv, by rw [upd_ne na]; exact q, z, s.mono (fun _ _ e => e) k2 k3⟩
  | ins c fs => obtain ⟨hc, dx, fs', q, z, s⟩ := q; exact ⟨hc, dx, fs', by rw [upd_ne na]; exact q, z, s.mono (fun _ _ e => e) k2 k3⟩
  | xdv w => obtain ⟨v, q, s⟩ := q; exact ⟨v, by rw [upd_ne na]; exact q, s.mono (fun _ _ e => e) k2 k3⟩
  | exo c d => obtain ⟨hc, dx, z, q⟩ := q; exact ⟨hc, dx, z, by rw [upd_ne na]; exact q⟩
  | pot q1 r1 => obtain ⟨x, y, z, q, s⟩ := q; exact ⟨x, y, z, by rw [upd_ne na]; exact q, s⟩
theorem dput_map {ρ : List Addr} {H : Hp} (z : L2.Key) {w : W} {v : V} (r : k.RW ρ H w v) : ∀ {acc : List (L2.Key × W)} {us : List (L2.Key × V)}, us.map (·.1) = acc.map (·.1) → k.RWs ρ H (acc.map (·.2)) (us.map (·.2)) →
    (us.map fun kv => if kv.1 = z then (kv.1, v) else kv).map (·.1) = (acc.map fun kv => if kv.1 = z then (kv.1, w) else kv).map (·.1) ∧
    k.RWs ρ H ((acc.map fun kv => if kv.1 = z then (kv.1, w) else kv).map (·.2)) ((us.map fun kv => if kv.1 = z then (kv.1, v) else kv).map (·.2))
  | [], [], _, _ => ⟨rfl, .nil⟩
  | [], _ :: _, e, _ => by simp at e
  | _ :: _, [], e, _ => by simp at e
  | (z1, w1) :: acc, (z2, v2) :: us, e, s => by
    simp only [List.map_cons, List.cons.injEq] at e
    obtain ⟨e1, e2⟩ := e
    subst e1
    cases s with
    | cons r1 s =>
      obtain ⟨i1, i2⟩ := dput_map z r e2 s
      by_cases hz : z2 = z
      · simp only [List.map_cons, if_pos hz, i1]
        exact ⟨trivial, .cons r i2⟩
      · simp only [List.map_cons, if_neg hz, i1]
        exact ⟨trivial, .cons r1 i2⟩
theorem any_keys {z : L2.Key} : ∀ {acc : List (L2.Key × W)} {us : List (L2.Key × V)}, us.map (·.1) = acc.map (·.1) → (us.any fun kv => decide (kv.1 = z)) = acc.any fun kv => decide (kv.1 = z)
  | [], [], _ => rfl
  | [], _ :: _, e => by simp at e
  | _ :: _, [], e => by simp at e
  | (z1, w1) :: acc, (z2, v2) :: us, e => by
    simp only [List.map_cons, List.cons.injEq] at e
    rw [List.any_cons, List.any_cons, any_keys e.2, e.1]
theorem dput_ok {ρ : List Addr} {H : Hp} (z : L2.Key) {w : W} {v : V} (r : k.RW ρ H w v) {acc : List (L2.Key × W)} {us : List (L2.Key × V)} (e : us.map (·.1) = acc.map (·.1)) (s : k.RWs ρ H (acc.map (·.2)) (us.map (·.2))) :
    (putK us z v).map (·.1) = (dputW acc z w).map (·.1) ∧ k.RWs ρ H ((dputW acc z w).map (·.2)) ((putK us z v).map (·.2)) := by
  unfold putK dputW
  rw [any_keys e]
  by_cases h : (acc.any fun kv => decide (kv.1 = z)) = true
  · rw [if_pos h, if_pos h]; exact dput_map z r e s
  · rw [if_neg h, if_neg h]
    refine ⟨by simp [e], ?_⟩
    rw [List.map_append, List.map_append]
    exact s.append (.cons r .nil)
/-- the reading of a dict comprehension -/
theorem t_dc {si : En → M (Src × Nat)} {vs : List Nat} {g : TgE} {c : ET} {ek e : EE} {σ : St} {H : Hp} {Q : VK} (hs : ∀ i ∈ g.sl, i ∈ vs) (t : tE k Wx (evDc si vs g c ek e) σ H Q) : tDc (tI k Wx si) (tG k g) (tT k wF c) (tE k wF ek) (tE k wF e) vs σ H Q := by
  obtain ⟨ρ, env, h, S, t⟩ := t
  refine ⟨ρ, env, h, S, t.bind.mono fun ρ1 h1 H1 s g1 t1 J sr D nD => ?_⟩
  have en1 := EnR.wipe (g1.en S.hr S.en) vs
  have gD : k.Go ρ1 H1 ρ1 h1 (upd H1 D (.dK [])) := g1.hr.pushT nD
  have nDρ : D ∉ ρ1 := fun z => (g1.hr.no_tup z).2.2 nD
  let I : Nat → Nat → Hp → Prop := fun i m H => ∃ ρ h acc us, k.Go ρ1 H1 ρ h H ∧ D ∉ ρ ∧ H D = some (.dK us) ∧ us.map (·.1) = acc.map (·.1) ∧ k.RWs ρ H (acc.map (·.2)) (us.map (·.2)) ∧ k.EnR ρ H (wipeE env vs) (L2.wipe σ vs) ∧
    Tm k Wx σ ρ1 h H1 (dcL s.1 g c ek e (wipeE env vs) m i acc >>= fun acc => (P.new (.dct acc)).up) fun ρ' _ H' w => ∀ v, k.RW ρ' H' w v → Q v H'
  refine ⟨I, ⟨s.2, ρ1, h1, [], [], gD, nDρ, upd_same, rfl, .nil, gD.en g1.hr en1, t1⟩, fun i m H ⟨ρ, h, acc, us, g2, nd, hD, ka, ra, en, t⟩ => ?_⟩
  cases m with
  | zero => exact False.elim t
  | succ m =>
    have t2 : Tm k Wx σ ρ1 h H1 ((match s.1 i h with
      | none => M.err
      | some none => pure acc
      | some (some w) => do
        let env1 ← M.of (g.st w (wipeE env vs))
        let t ← trB (Ev.nox (c env1))
        match t with
        | false => dcL s.1 g c ek e (wipeE env vs) m (i + 1) acc
        | true => do
          let kw ← trW (Ev.nox (ek env1))
          let y ← trW (Ev.nox (e env1))
          let acc' ← M.of (dcP acc kw y)
          dcL s.1 g c ek e (wipeE env vs) m (i + 1) acc') >>= fun acc => (P.new (.dct acc)).up) fun ρ' _ H' w => ∀ v, k.RW ρ' H' w v → Q v H' := t
    cases q : s.1 i h with
    | none => rw [q] at t2; exact False.elim t2
    | some o =>
      rw [q] at t2
      cases o with
      | none =>
        refine .inl ⟨sr.stop ρ h H g2 i q, ?_⟩
        have hr := g2.hr
        have gp : k.Go ρ1 H1 (ρ ++ [D]) (h ++ [.dct acc]) H := by
          obtain ⟨r0, e0⟩ := g2.pre
          refine ⟨⟨by simp [hr.len], ?_, fun j a o e1 e2 => ?_, fun b o e => ⟨(hr.base b o e).1, fun z => (List.mem_append.mp z).elim (hr.base b o e).2 fun z => by rw [List.mem_singleton.mp z, g1.hr.zero nD] at e; cases e⟩⟩, ⟨r0 ++ [D], by rw [e0, List.append_assoc]⟩, fun b hb hn => ?_, g2.frame⟩
          · rw [List.nodup_append]
            exact ⟨hr.nd, by simp, fun a ha b hb => by rw [List.mem_singleton.mp hb]; rintro rfl; exact nd ha⟩
          · by_cases hj : j < ρ.length
            · rw [List.getElem?_append_left hj] at e1
              rw [List.getElem?_append_left (by rw [← hr.len]; exact hj)] at e2
              exact hr.ro (fun b o e _ => e) get_app rfl (hr.obj j a o e1 e2)
            · rw [List.getElem?_append_right (by omega)] at e1
              rw [List.getElem?_append_right (by rw [← hr.len]; omega)] at e2
              have i0 : j - ρ.length = 0 := by
                have := (List.getElem?_eq_some_iff.mp e1).1
                simp at this; omega
              rw [i0] at e1
              rw [← hr.len, i0] at e2
              simp at e1 e2
              subst e1; subst e2
              exact ⟨us, hD, ka, hr.rws (fun b o e _ => e) get_app ra⟩
          · rcases List.mem_append.mp hb with z | z
            · exact g2.new b z hn
            · rw [List.mem_singleton.mp z]; exact nD
        exact t2 _ _ gp _ (RW.last hr)
      | some w =>
        obtain ⟨j1, j2⟩ := sr.go ρ h H g2 i w q
        refine .inr ⟨j1, fun H' => I (i + 1) m H', fun H' q => ⟨m, Nat.lt_succ_self m, q⟩, fun x H' y => ?_⟩
        obtain ⟨g3, rx⟩ := j2 x H' y
        obtain ⟨hD3, nd3⟩ := g3.keepD nd hD
        have en3 := g3.en g2.hr en
        have ra3 := g3.rws g2.hr ra
        have g23 := g2.trans g3
        -- the target
        have t3 : Tm k Wx σ ρ1 h H1 (M.of (g.st w (wipeE env vs)) >>= fun env1 => (do
          let t ← trB (Ev.nox (c env1))
          match t with
          | false => dcL s.1 g c ek e (wipeE env vs) m (i + 1) acc
          | true => do
            let kw ← trW (Ev.nox (ek env1))
            let y ← trW (Ev.nox (e env1))
            let acc' ← M.of (dcP acc kw y)
            dcL s.1 g c ek e (wipeE env vs) m (i + 1) acc') >>= fun acc => (P.new (.dct acc)).up) fun ρ' _ H' w => ∀ v, k.RW ρ' H' w v → Q v H' := by
          unfold Tm at t2 ⊢
          cases qq : g.st w (wipeE env vs) with
          | none =>
            simp only [qq] at t2
            exact t2
          | some env1 =>
            simp only [qq] at t2
            exact t2
        obtain ⟨env1, e1, t4⟩ := t3.of
        refine ⟨ρ, wipeE env vs, h, w, env1, ⟨g3.hr, en3⟩, rx, e1, fun σ2 en2 off => ⟨off.wipe hs, ?_⟩⟩
        -- the test
        have t5 : Tm k Wx σ ρ1 h H1 (trB (Ev.nox (c env1)) >>= fun t => (match t with
          | false => dcL s.1 g c ek e (wipeE env vs) m (i + 1) acc
          | true => do
            let kw ← trW (Ev.nox (ek env1))
            let y ← trW (Ev.nox (e env1))
            let acc' ← M.of (dcP acc kw y)
            dcL s.1 g c ek e (wipeE env vs) m (i + 1) acc') >>= fun acc => (P.new (.dct acc)).up) fun ρ' _ H' w => ∀ v, k.RW ρ' H' w v → Q v H' := by
          unfold Tm at t4 ⊢
          have e : ∀ {α β γ : Type} (a : M α) (f : α → M β) (g : β → M γ), ((a >>= f) >>= g) = (a >>= fun x => f x >>= g) := fun a f g => M.assoc a f g
          rw [e] at t4
          exact t4
        have t6 := t5.bindB g23
        refine ⟨ρ, env1, h, ⟨g3.hr, en2⟩, ?_⟩
        refine Tm.nox (Wx := Wx) (σ := σ) ?_
        refine Tm.trB (R := fun H3 b => if b = true then tE k wF ek σ2 H3 fun y H4 => tE k wF e σ2 H4 fun z H5 => ∃ kvs kk, y = kV kk ∧ H5 D = some (.dK kvs) ∧ kvs.length < sizeLine ∧ I (i + 1) m (upd H5 D (.dK (putK kvs kk z))) else I (i + 1) m H3) g3.hr (t6.mono fun ρ4 h4 H4 b g4 t7 => ?_)
        obtain ⟨hD4, nd4⟩ := g4.keepD nd3 hD3
        have g14 := g23.trans g4
        have ra4 := g4.rws g3.hr ra3
        have en4 := g4.en g3.hr en3
        cases b with
        | false => exact ⟨ρ4, h4, acc, us, g14, nd4, hD4, ka, ra4, en4, t7⟩
        | true =>
          have as : ∀ {α β γ : Type} (a : M α) (f : α → M β) (g : β → M γ), ((a >>= f) >>= g) = (a >>= fun x => f x >>= g) := fun a f g => M.assoc a f g
          have t8 : Tm k Wx σ ρ1 h4 H1 (trW (Ev.nox (ek env1)) >>= fun kw => trW (Ev.nox (e env1)) >>= fun y => M.of (dcP acc kw y) >>= fun acc' => dcL s.1 g c ek e (wipeE env vs) m (i + 1) acc' >>= fun acc => (P.new (.dct acc)).up) fun ρ' _ H' w => ∀ v, k.RW ρ' H' w v → Q v H' := by
            unfold Tm at t7 ⊢
            simp only [as] at t7
            exact t7
          have t9 := t8.bindB g14
          refine ⟨ρ4, env1, h4, ⟨g4.hr, g4.en g3.hr en2⟩, ?_⟩
          refine Tm.nox (Wx := Wx) (σ := σ) ?_
          refine Tm.trW (R := fun H5 v => tE k wF e σ2 H5 fun z H6 => ∃ kvs kk, v = kV kk ∧ H6 D = some (.dK kvs) ∧ kvs.length < sizeLine ∧ I (i + 1) m (upd H6 D (.dK (putK kvs kk z)))) g4.hr (t9.mono fun ρ5 h5 H5 kw g5 t10 kv rk => ?_)
          obtain ⟨hD5, nd5⟩ := g5.keepD nd4 hD4
          have g15 := g14.trans g5
          have ra5 := g5.rws g4.hr ra4
          have en5 := g5.en g4.hr en4
          have en25 := g5.en g4.hr (g4.en g3.hr en2)
          have t11 := t10.bindB g15
          refine ⟨ρ5, env1, h5, ⟨g5.hr, en25⟩, ?_⟩
          refine Tm.nox (Wx := Wx) (σ := σ) ?_
          refine Tm.trW (R := fun H6 z => ∃ kvs kk, kv = kV kk ∧ H6 D = some (.dK kvs) ∧ kvs.length < sizeLine ∧ I (i + 1) m (upd H6 D (.dK (putK kvs kk z)))) g5.hr (t11.mono fun ρ6 h6 H6 y g6 t12 v ry => ?_)
          obtain ⟨hD6, nd6⟩ := g6.keepD nd5 hD5
          have g16 := g15.trans g6
          have ra6 := g6.rws g5.hr ra5
          have en6 := g6.en g5.hr en5
          obtain ⟨acc', ea, t13⟩ := t12.of
          unfold dcP at ea
          by_cases cl : acc.length < sizeLine
          · rw [if_pos cl, Option.map_eq_some_iff] at ea
            obtain ⟨kk, ek', rfl⟩ := ea
            have hl : us.length = acc.length := by simpa using congrArg List.length ka
            refine ⟨us, kk, keyW_ok rk ek', hD6, by rw [hl]; exact cl, ?_⟩
            obtain ⟨hr7, up7⟩ := HR.besideD (us' := putK us kk v) g16.hr nd6 (g1.hr.zero nD) hD6
            obtain ⟨p1, p2⟩ := dput_ok kk ry ka ra6
            refine ⟨ρ6, h6, dputW acc kk y, putK us kk v, ⟨hr7, g16.pre, g16.new, fun b o eb hb => ?_⟩, nd6, upd_same, p1, ?_, ?_, t13⟩
            · have nb : b ≠ D := fun z => by rw [z, nD] at eb; cases eb
              rw [upd_ne nb]; exact g16.frame b o eb hb
            · exact rws_of up7 p2
            · exact ⟨en6.len, fun j w e => let ⟨v', e1, q⟩ := en6.val j w e; ⟨v', e1, up7 q⟩⟩
          · rw [if_neg cl] at ea; cases ea
end
end
end Ev
set_option Elab.async false
set_option linter.all false
set_option maxRecDepth 100000
namespace Ev
open PySem L2
noncomputable section
/-! ### dict displays -/
def evPairs : List (EE × EE) → En → M (List (W × W))
  | [], _ => pure []
  | (a, b) :: r, env => do let x ← a env; let y ← b env; let ps ← evPairs r env; pure ((x, y) :: ps)
def keysW : List (W × W) → Option (List (L2.Key × W))
  | [] => some []
  | (a, b) :: r => match keyW a, keysW r with
    | some z, some l => some ((z, b) :: l)
    | _, _ => none
def mergeW (l : List (L2.Key × W)) : List (L2.Key × W) := l.foldl (fun acc kv => dputW acc kv.1 kv.2) []
def dispP (ps : List (W × W)) : P W := match keysW ps with
  | some l => P.iff (decide (l.length ≤ 15)) (P.new (.dct (mergeW l)))
  | none => P.fail
def evDisp (l : List (EE × EE)) : EE := fun env => do let ps ← evPairs l env; (dispP ps).up
section
variable {X : Cx} {k : Kx} {Wx : WX}
/-- an object beside ours becomes one of ours -/
theorem Go.adopt {ρ1 ρ : List Addr} {h : Hv} {H1 H : Hp} {D : Addr} {o : O} (g : k.Go ρ1 H1 ρ h H) (nD : H1 D = none) (hz : k.ca.H0 D = none) (nd : D ∉ ρ) (ro : RO k.T k.K k.ca (ρ ++ [D]) H D o) : k.Go ρ1 H1 (ρ ++ [D]) (h ++ [o]) H := by
  have hr := g.hr
  obtain ⟨r0, e0⟩ := g.pre
  refine ⟨⟨by simp [hr.len], ?_, fun j a o e1 e2 => ?_, fun b o e => ⟨(hr.base b o e).1, fun z => (List.mem_append.mp z).elim (hr.base b o e).2 fun z => by rw [List.mem_singleton.mp z, hz] at e; cases e⟩⟩, ⟨r0 ++ [D], by rw [e0, List.append_assoc]⟩, fun b hb hn => ?_, g.frame⟩
  · rw [List.nodup_append]
    exact ⟨hr.nd, by simp, fun a ha b hb => by rw [List.mem_singleton.mp hb]; rintro rfl; exact nd ha⟩
  · by_cases hj : j < ρ.length
    · rw [List.getElem?_append_left hj] at e1
      rw [List.getElem?_append_left (by rw [← hr.len]; exact hj)] at e2
      exact hr.ro (fun b o e _ => e) get_app rfl (hr.obj j a o e1 e2)
    · rw [List.getElem?_append_right (by omega)] at e1
      rw [List.getElem?_append_right (by rw [← hr.len]; omega)] at e2
      have i0 : j - ρ.length = 0 := by
        have := (List.getElem?_eq_some_iff.mp e1).1
        simp at this; omega
      rw [i0] at e1
      rw [← hr.len, i0] at e2
      simp at e1 e2
      subst e1; subst e2
      exact ro
  · rcases List.mem_append.mp hb with z | z
    · exact g.new b z hn
    · rw [List.mem_singleton.mp z]; exact nD
/-- pairs stand for pairs -/
inductive RPs (k : Kx) (ρ : List Addr) (H : Hp) : List (W × W) → List (V × V) → Prop
  | nil : RPs k ρ H [] []
  | cons {a b : W} {x y : V} {ws : List (W × W)} {vs : List (V × V)} : k.RW ρ H a x → k.RW ρ H b y → RPs k ρ H ws vs → RPs k ρ H ((a, b) :: ws) ((x, y) :: vs)
def trsOf (k : Kx) (Wx : WX) (l : List (EE × EE)) : List (TE × TE) := l.map fun p => (tE k Wx p.1, tE k Wx p.2)
theorem t_pairs : ∀ {l : List (EE × EE)} {σ : L2.St} {ρ : List Addr} {env : En} {h : Hv} {H : Hp} {Q : List (V × V) → Hp → Prop}, Sim k ρ env h σ H → Tm k Wx σ ρ h H (evPairs l env) (fun ρ' h' H' ws => ∀ ps, k.Go ρ H ρ' h' H' → RPs k ρ' H' ws ps → Q ps H') → tPairs (trsOf k Wx l) σ H Q
  | [], σ, ρ, env, h, H, Q, S, t => t.pure S.hr [] (Go.refl S.hr) .nil
  | (a, b) :: r, σ, ρ, env, h, H, Q, S, t => by
    refine ⟨ρ, env, h, S, t.bind.mono fun ρ1 h1 H1 wa g1 t1 va ra => ?_⟩
    refine ⟨ρ1, env, h1, ⟨g1.hr, g1.en S.hr S.en⟩, t1.bind.mono fun ρ2 h2 H2 wb g2 t2 vb rb => ?_⟩
    have en2 := g2.en g1.hr (g1.en S.hr S.en)
    refine t_pairs (l := r) ⟨g2.hr, en2⟩ (t2.bind.mono fun ρ3 h3 H3 ws g3 t3 ps g4 rs => ?_)
    exact t3.pure g3.hr _ (g1.trans (g2.trans g3)) (.cons (g3.rw g2.hr (g2.rw g1.hr ra)) (g3.rw g2.hr rb) rs)
theorem keys_ok {ρ : List Addr} {H : Hp} : ∀ {ws : List (W × W)} {ps : List (V × V)} {l : List (L2.Key × W)}, RPs k ρ H ws ps → keysW ws = some l → ∃ kvs : List (L2.Key × V), ps = kvs.map (fun kv => (kV kv.1, kv.2)) ∧ kvs.map (·.1) = l.map (·.1) ∧ k.RWs ρ H (l.map (·.2)) (kvs.map (·.2))
  | _, _, l, .nil, e => by cases e; exact ⟨[], rfl, rfl, .nil⟩
  | _, _, l, .cons (ws := ws) ra rb rs, e => by
    unfold keysW at e
    split at e
    · rename_i z l' e1 e2
      cases e
      obtain ⟨kvs, h1, h2, h3⟩ := keys_ok rs e2
      exact ⟨(z, _) :: kvs, by rw [List.map_cons, ← h1, keyW_ok ra e1], by rw [List.map_cons, List.map_cons, h2], .cons rb h3⟩
    · cases e
theorem merge_ok {ρ : List Addr} {H : Hp} : ∀ {l : List (L2.Key × W)} {kvs : List (L2.Key × V)} {acc : List (L2.Key × W)} {us : List (L2.Key × V)}, kvs.map (·.1) = l.map (·.1) → k.RWs ρ H (l.map (·.2)) (kvs.map (·.2)) → us.map (·.1) = acc.map (·.1) → k.RWs ρ H (acc.map (·.2)) (us.map (·.2)) →
    (mergeK us kvs).map (·.1) = (l.foldl (fun acc kv => dputW acc kv.1 kv.2) acc).map (·.1) ∧ k.RWs ρ H ((l.foldl (fun acc kv => dputW acc kv.1 kv.2) acc).map (·.2)) ((mergeK us kvs).map (·.2))
  | [], [], _, _, _, _, e, s => ⟨e, s⟩
  | [], _ :: _, _, _, e, _, _, _ => by simp at e
  | _ :: _, [], _, _, e, _, _, _ => by simp at e
  | (z1, w1) :: l, (z2, v2) :: kvs, acc, us, e, s, e0, s0 => by
    simp only [List.map_cons, List.cons.injEq] at e
    obtain ⟨e1, e2⟩ := e
    subst e1
    cases s with
    | cons r1 s =>
      obtain ⟨p1, p2⟩ := dput_ok z2 r1 e0 s0
      exact merge_ok (l := l) (kvs := kvs) (acc := dputW acc z2 w1) (us := putK us z2 v2) e2 s p1 p2
theorem t_disp {l : List (EE × EE)} {σ : L2.St} {H : Hp} {Q : VK} (t : tE k Wx (evDisp l) σ H Q) : tDisp (trsOf k Wx l) σ H Q := by
  obtain ⟨ρ, env, h, S, t⟩ := t
  intro p np
  have gD : k.Go ρ H ρ h (upd H p (.dK [])) := S.hr.pushT np
  have nDρ : p ∉ ρ := fun z => (S.hr.no_tup z).2.2 np
  refine t_pairs (ρ := ρ) (env := env) (h := h) ⟨gD.hr, gD.en S.hr S.en⟩ ((Tm.bindB t gD).mono fun ρ1 h1 H1 ws g1 t1 ps _ rs => ?_)
  obtain ⟨hD1, nd1⟩ := g1.keepD nDρ upd_same
  refine ⟨hD1, ?_⟩
  have t2 := t1
  unfold Tm P.up dispP at t2
  cases ek : keysW ws with
  | none => rw [ek] at t2; exact False.elim t2
  | some l' =>
    rw [ek] at t2
    obtain ⟨kvs, e1, e2, e3⟩ := keys_ok rs ek
    have hl : kvs.length = l'.length := by simpa using congrArg List.length e2
    by_cases c : l'.length ≤ 15
    · simp only [P.iff, decide_eq_true c, P.new] at t2
      refine ⟨kvs, e1, by rw [hl]; exact c, ?_⟩
      obtain ⟨m1, m2⟩ := merge_ok (acc := []) (us := []) e2 e3 rfl .nil
      obtain ⟨hr7, up7⟩ := HR.besideD (us' := mergeK [] kvs) g1.hr nd1 (S.hr.zero np) hD1
      have g2 : k.Go ρ H ρ1 h1 (upd H1 p (.dK (mergeK [] kvs))) := by
        have g := gD.trans g1
        refine ⟨hr7, g.pre, g.new, fun b o eb hb => ?_⟩
        have nb : b ≠ p := fun z => by rw [z, np] at eb; cases eb
        rw [upd_ne nb]; exact g.frame b o eb hb
      have g3 := g2.adopt np (S.hr.zero np) nd1 (o := .dct (mergeW l')) ⟨_, upd_same, m1, (rws_of up7 m2).mono get_app (fun _ _ z => z) fun _ _ z => z⟩
      exact t2 _ _ g3 _ (RW.last g2.hr)
    · simp only [P.iff, decide_eq_false c] at t2
      exact False.elim t2
end
end
end Ev
set_option Elab.async false
set_option linter.all false
set_option maxRecDepth 100000
namespace Ev
open PySem L2 PySem.Spec PyProof.Rows
noncomputable section

/-! ### from the text to closures -/
/-- a def: its number, how many parameters, the values of the last ones' defaults -/
structure FnI where
  j : Nat
  n : Nat
  dws : List W
/-- the text's global names -/
structure Gt where
  fn : List (Str × FnI)
  cl : List (Str × (Nat × FnI))
  ex : List (Str × Nat)
  me : List (Str × (Nat × FnI))
  co : List (Str × W)
  ty : List (Str × String)
  bi : List Str
  fl : List (Str × Nat)
  fv : Nat
  isi : Tk → W → Option Bool
  own : List (Nat × Nat)
/-- a block's names -/
structure Ct where
  N : List Str
  sc : Scope
  fn : Str → Bool
  jn : Option Nat
def jnE (ct : Ct) (e : EE) : EE := match ct.jn with
  | some _ => evJn e
  | none => e
def jnB (ct : Ct) (b : ES) : ES := match ct.jn with
  | some n => esJn n b
  | none => b
theorem s_jnE {X : Cx} {k : Kx} {Wx : WX} {ct : Ct} {e : Expr} {ea : EE} (h : PE X e (tE k Wx ea)) : PE X e (tE k Wx (jnE ct ea)) := by
  unfold jnE
  split
  · exact c_jn h
  · exact h
theorem s_jnB {X : Cx} {k : Kx} {Ws : XK} {ct : Ct} {s : List Stmt} {b : ES} (h : PSs X s (tS k Ws b)) : PSs X s (tS k Ws (jnB ct b)) := by
  unfold jnB
  split
  · exact d_jn h
  · exact h
structure Cp where
  E : Ct → Expr → EE
  T : Ct → Expr → ET
  I : Ct → Expr → Expr → En → M (Src × Nat)
  G : Ct → Expr → Option TgE
  S : Ct → Stmt → ES
  B : Ct → List Stmt → ES
def eE : EE := fun _ => M.err
def eT : ET := fun _ => M.err
def eI : En → M (Src × Nat) := fun _ => M.err
def eS : ES := fun _ => M.err
def cp0 : Cp := ⟨fun _ _ => eE, fun _ _ => eT, fun _ _ _ => eI, fun _ _ => none, fun _ _ => eS, fun _ _ => eS⟩

def ixS : List Str → Str → Option Nat
  | [], _ => none
  | y :: r, x => if y = x then some 0 else (ixS r x).map (· + 1)
theorem ixS_ok : ∀ {N : List Str} {x : Str} {i : Nat}, ixS N x = some i → N[i]? = some x
  | [], _, _, e => by cases e
  | y :: r, x, i, e => by
    unfold ixS at e
    by_cases h : y = x
    · rw [if_pos h] at e; cases e; rw [h]; rfl
    · rw [if_neg h, Option.map_eq_some_iff] at e
      obtain ⟨j, e, rfl⟩ := e
      simpa using ixS_ok e
def visB (sc : Scope) (x : Str) : Bool := match sc.names.lookup x with
  | some .local => true
  | some .cell => true
  | some .free => true
  | _ => false
theorem visB_ok {sc : Scope} {x : Str} (e : visB sc x = true) : Vis sc x := by
  unfold visB at e
  split at e
  · exact .inl (by assumption)
  · exact .inr (.inl (by assumption))
  · exact .inr (.inr (by assumption))
  · cases e
def glB (sc : Scope) (x : Str) : Bool := match sc.names.lookup x with
  | some .globalImplicit => true
  | _ => false
def oddB (x : Str) : Bool := x == ("__debug__" : Str) || x == ("__classdict__" : Str) || x == ("__name__" : Str)
theorem oddB_ok {x : Str} (e : oddB x = false) : (x == ("__debug__" : Str)) = false ∧ (x == ("__classdict__" : Str)) = false ∧ x ≠ "__name__" := by
  unfold oddB at e
  rw [Bool.or_eq_false_iff, Bool.or_eq_false_iff] at e
  exact ⟨e.1.1, e.1.2, fun z => by have := e.2; rw [z] at this; simp at this⟩

/-! ### what the context must be -/
section
variable (k : Kx) (g : Gt) (F : Nat → List W → M W) (d : Nat) (D : Addr) (P : Program) (w : World) (mg : Str → Option Value) (base : Heap)
/-- a def by its number -/
structure FnFact (fi : FnI) (f : Addr) : Prop where
  ok : ∃ fd ps, FnOk P w k.K mg base (CX P w) d f fd ps (spM k fi.n (F fi.j)) ∧
    ∀ m, m ≤ fi.dws.length → ∃ dvs ds, L2.Binds k.K fd ps ds ∧ Vals dvs ds ∧ ∀ ρ H, k.RWs ρ H (fi.dws.drop (fi.dws.length - m)) dvs
/-- what the top says -/
structure Glob : Prop where
  cls : Clss k
  exs : Exs k D
  exq : ExEq k
  isi : Isi k g.isi
  nm : ∀ x f, g.fl.lookup x = some f → k.T.nm[f]? = some x
  fv : k.T.nm[g.fv]? = some "value"
  me0 : ∀ x c fi, g.me.lookup x = some (c, fi) → x ∉ k.T.nm
  fn : ∀ x fi, g.fn.lookup x = some fi → ∃ f, mg x = some (.ref f) ∧ PySem.W.keepIn k.K (.ref f) = true ∧ FnFact k F d P w mg base fi f
  cl : ∀ x c fi, g.cl.lookup x = some (c, fi) → mg x = some (.ref (k.ca c)) ∧ c < k.T.cn.length ∧ ∃ f, Mk k.K (k.ca c) f ∧ FnFact k F d P w mg base fi f
  me : ∀ x c fi, g.me.lookup x = some (c, fi) → c < k.T.cn.length ∧ ∃ f, Meth k.K (k.ca c) x f ∧ FnFact k F d P w mg base fi f
  ex : ∀ x c, g.ex.lookup x = some c → mg x = some (.ref (k.ca c)) ∧ k.T.cn.length ≤ c ∧ c < k.T.cn.length + k.T.xn ∧ ∃ fI fd, PySem.W.findIn k.K (.ref (k.ca c)) "__init__" = some (some (.ref fI)) ∧ PySem.W.typeIn k.K (.ref fI) = some (.type "function") ∧
    FnOk P w k.K mg base (CX P w) d fI fd [("self" : Str), "value"] (spInit k.K D) ∧ L2.Binds k.K fd [("self" : Str), "value"] []
  co : ∀ x z, g.co.lookup x = some z → ∃ v u, mg x = some u ∧ RelV v u ∧ ∀ ρ H, k.RW ρ H z v
  ty : ∀ x n, g.ty.lookup x = some n → mg x = none ∧ bootBuiltins x = some (.type n)
  bi : ∀ x, x ∈ g.bi → mg x = none
  sl : k.ca.ns.length < 64
  ate : ∀ X : Cx, X.prog = P → X.w = w → X.mg = mg → X.base = base → X.K = k.K → Room (d + 1) X.A → Room 20 X.A → (∃ Wx, Takes X Wx) → AtEq X k
  own : ∀ c j, g.own.lookup c = some j → ∃ f fd ps, FnOk P w k.K mg base (CX P w) d f fd ps (spM k 2 (F j)) ∧ PySem.W.findIn k.K (.ref (k.ca c)) "__eq__" = some (some (.ref f)) ∧ PySem.W.isFn k.K (.ref f) = true ∧ L2.Binds k.K fd ps []
end
structure Good (k : Kx) (g : Gt) (F : Nat → List W → M W) (d : Nat) (D : Addr) (ct : Ct) (X : Cx) (Wx : WX) : Prop where
  hK : X.K = k.K
  hN : X.N = ct.N
  nd : X.N.Nodup
  sc : X.env.scope = ct.sc
  fn : X.fn = ct.fn
  calm : X.calm = true
  pas : PassesOwn (model X.prog X.w) X.A X.env X.xe
  tk : Takes X Wx
  room : Room (d + 1) X.A
  room20 : Room 20 X.A
  gl : Glob k g F d D X.prog X.w X.mg X.base
section
variable {k : Kx} {g : Gt} {F : Nat → List W → M W} {d : Nat} {D : Addr} {ct : Ct} {X : Cx} {Wx : WX}
theorem Good.units (G : Good k g F d D ct X Wx) : X.A.units + 64 < cLine := G.room.units
theorem Good.gl' (G : Good k g F d D ct X Wx) {x : Str} (e : glB ct.sc x = true) : Gl X x := by
  show X.env.scope.names.lookup x = some .globalImplicit
  rw [G.sc]
  unfold glB at e
  split at e
  · assumption
  · cases e
/-- what a compiler promises -/
structure Snd (k : Kx) (g : Gt) (F : Nat → List W → M W) (d : Nat) (D : Addr) (c : Cp) : Prop where
  E : ∀ {ct X Wx}, Good k g F d D ct X Wx → ∀ e, PE X e (tE k Wx (c.E ct e))
  T : ∀ {ct X Wx}, Good k g F d D ct X Wx → ∀ e, PT X e (tT k Wx (c.T ct e))
  I : ∀ {ct X Wx}, Good k g F d D ct X Wx → ∀ t e, PI X t e (tI k Wx (c.I ct t e))
  G : ∀ {ct X Wx}, Good k g F d D ct X Wx → ∀ e t, c.G ct e = some t → PG X e (tG k t)
  S : ∀ {ct X} {Ws : XK}, Good k g F d D ct X (wS Ws) → ∀ s, PS X s (tS k Ws (c.S ct s))
  B : ∀ {ct X} {Ws : XK}, Good k g F d D ct X (wS Ws) → ∀ s, PSs X s (tS k Ws (c.B ct s))
theorem no_E {e : Expr} : PE X e (tE k Wx eE) := ⟨fun _ _ _ _ _ _ ⟨_, _, _, _, t⟩ => False.elim t⟩
theorem no_T {e : Expr} : PT X e (tT k Wx eT) := ⟨fun _ _ _ _ _ _ ⟨_, _, _, _, t⟩ => False.elim t⟩
theorem no_W {e : Expr} : PW X e (tT k Wx eT) := ⟨fun _ _ _ _ _ _ _ ⟨_, _, _, _, t⟩ => False.elim t⟩
theorem no_I {t e : Expr} : PI X t e (tI k Wx eI) := ⟨fun _ _ _ _ _ _ ⟨_, _, _, _, t⟩ => False.elim t⟩
theorem no_S {Ws : XK} {s : Stmt} : PS X s (tS k Ws eS) := ⟨fun _ _ _ _ _ _ ⟨_, _, _, _, t⟩ => False.elim t⟩
theorem no_B {Ws : XK} {s : List Stmt} : PSs X s (tS k Ws eS) := ⟨fun _ _ _ _ _ _ ⟨_, _, _, _, t⟩ => False.elim t⟩
theorem snd0 : Snd k g F d D cp0 := ⟨fun _ _ => no_E, fun _ _ => no_T, fun _ _ _ => no_I, fun _ _ _ e => (by cases e), fun _ _ => no_S, fun _ _ => no_B⟩
end
/-! ### arguments -/
def notStar : Expr → Bool
  | .Starred _ _ => false
  | _ => true
theorem star1 {e : Expr} {es : List Expr} {env : Env} (h : notStar e = true) : starEach (e :: es) env = (false, eval e env) :: starEach es env := by
  cases e <;> first | rfl | cases h
theorem star2 {pos : Pos} {env : Env} : ∀ {es : List Expr}, es.all notStar = true → (backTo pos (starEach es env)).any (·.1) = false
  | [], _ => rfl
  | e :: es, h => by
    rw [List.all_cons, Bool.and_eq_true] at h
    rw [star1 h.1]
    show (false || (backTo pos (starEach es env)).any (·.1)) = false
    rw [star2 h.2]; rfl
def argE (c : Cp) (ct : Ct) : Expr → Bool × EE
  | .Starred e _ => (true, c.E ct e)
  | e => (false, c.E ct e)
def cA (c : Cp) (ct : Ct) (es : List Expr) : List (Bool × EE) := es.map (argE c ct)
section
variable {k : Kx} {g : Gt} {F : Nat → List W → M W} {d : Nat} {D : Addr} {ct : Ct} {X : Cx} {Wx : WX} {c : Cp}
theorem s_A (S : Snd k g F d D c) (G : Good k g F d D ct X Wx) : ∀ es, PA X es (tL k Wx (evArgs (cA c ct es)))
  | [] => c_args0
  | e :: es => by
    have ih := s_A S G es
    cases h : notStar e with
    | true =>
      have e1 : argE c ct e = (false, c.E ct e) := by cases e <;> first | rfl | cases h
      show PA X (e :: es) (tL k Wx (evArgs (argE c ct e :: cA c ct es)))
      rw [e1]
      exact c_args (S.E G e) ih (star1 h)
    | false =>
      cases e <;> first | (cases h; done) | skip
      exact c_argsS G.hK (S.E G _) ih rfl
end
end
end Ev
set_option Elab.async false
set_option linter.all false
set_option maxRecDepth 100000
namespace Ev
open PySem L2 PySem.Spec PyProof.Rows
noncomputable section

def constE : Const → EE
  | .none => evC .non
  | .bool b => evC (.bl b)
  | .int i => evC (.int i)
  | .str s => evC (.str s.cps.toList)
  | _ => eE
def globE (g : Gt) (x : Str) : EE := match g.co.lookup x with
  | some w => evC w
  | none => match g.ty.lookup x with
    | some n => evC (.ty n)
    | none => match g.cl.lookup x with
      | some (c, _) => evC (.cls c)
      | none => match g.ex.lookup x with
        | some c => evC (.cls c)
        | none => eE
def nameE (g : Gt) (ct : Ct) (x : Str) : EE := if oddB x = true then eE else if visB ct.sc x = true then (match ixS ct.N x with
  | some i => evV i
  | none => eE) else if glB ct.sc x = true then globE g x else eE
def binF : Operator → Option (W → W → P W)
  | .Add => some addW | .Sub => some subW | .Mult => some mulW | .Mod => some modW | .FloorDiv => some fdivW | .Pow => some powW
  | _ => none
def binE (op : Operator) (a b : EE) : EE := match binF op with
  | some f => evB f a b
  | none => eE
def cmpF : CmpOp → Option (W → W → P W)
  | .Eq => some eqX | .NotEq => some neW | .Lt => some ltW | .LtE => some leW | .Gt => some gtW | .GtE => some geW | .Is => some isW | .IsNot => some isNotW | .In => some inW | .NotIn => some notInW
def ownF (g : Gt) (F : Nat → List W → M W) (c : Nat) : Option (List W → M W) := (g.own.lookup c).map F
/-- one comparison -/
def cmpE (g : Gt) (F : Nat → List W → M W) (op : CmpOp) (b : Expr) (x y : EE) : EE := if behindInMarks op b = true then eE else match op with
  | .Eq => evEqM (ownF g F) x y
  | op => match cmpF op with
    | some f => evB f x y
    | none => eE
def chainE (op op' : CmpOp) (b b' : Expr) (x y z : EE) : EE := if lastMarks [op, op'] [b, b'] = true then eE else match cmpF op, cmpF op' with
  | some f, some f' => evChain f f' x y z
  | _, _ => eE
def foldE (f : EE → EE → EE) : List EE → EE
  | [] => eE
  | [a] => a
  | a :: b :: r => f a (foldE f (b :: r))
def foldT (f : ET → ET → ET) : List ET → ET
  | [] => eT
  | [a] => a
  | a :: b :: r => f a (foldT f (b :: r))
def boolE (op : BoolOp) (es : List EE) : EE := match op with
  | .And => foldE evAnd es
  | .Or => foldE evOr es
def boolT (op : BoolOp) (es : List ET) : ET := match op with
  | .And => foldT evAndT es
  | .Or => foldT evOrT es
def negP : W → P W
  | .int i => P.ok (.int (-i))
  | _ => P.fail
def notSuper : Expr → Bool
  | .Call (.Name _ _) [] [] _ => false
  | _ => true
def plainIx : Expr → Bool
  | .Slice _ _ _ _ => false
  | .Tuple _ _ _ => false
  | _ => true

section
variable {k : Kx} {g : Gt} {F : Nat → List W → M W} {d : Nat} {D : Addr} {ct : Ct} {X : Cx} {Wx : WX} {c : Cp}
theorem rw_str (s : Str) {ρ : List Addr} {H : Hp} : k.RW ρ H (.str s.cps.toList) (.str s) := by
  have : s = ⟨s.cps.toList.toArray⟩ := by cases s; simp
  rw [this]
  exact RW.str _
theorem s_const (v : Const) {j : Nat} {pos : Pos} : PE X (.Constant v j pos) (tE k Wx (constE v)) := by
  cases v with
  | none => exact c_const pe_non fun _ _ => .non
  | bool b => exact c_const pe_bl fun _ _ => .bl b
  | int i => exact c_const pe_int fun _ _ => .int i
  | str s => exact c_const pe_str fun _ _ => rw_str s
  | float _ => exact no_E
  | complex _ _ => exact no_E
  | bytes _ => exact no_E
  | ellipsis => exact no_E
theorem s_glob (G : Good k g F d D ct X Wx) {x : Str} {pos : Pos} (ho : oddB x = false) (hg : glB ct.sc x = true) : PE X (.Name x pos) (tE k Wx (globE g x)) := by
  obtain ⟨o1, o2, o3⟩ := oddB_ok ho
  unfold globE
  cases h1 : g.co.lookup x with
  | some w =>
    obtain ⟨v, u, m, r, q⟩ := G.gl.co x w h1
    exact c_const (pe_glob (G.gl' hg) m r o1) q
  | none =>
    cases h2 : g.ty.lookup x with
    | some n =>
      obtain ⟨m, b⟩ := G.gl.ty x n h2
      exact c_const (v := .ty n) (pe_bltn (G.gl' hg) m b rfl o3 o1) fun _ _ => .ty n
    | none =>
      cases h3 : g.cl.lookup x with
      | some p =>
        obtain ⟨c, fi⟩ := p
        obtain ⟨m, _⟩ := G.gl.cl x c fi h3
        exact c_const (v := .ref (k.ca c)) (pe_glob (G.gl' hg) m rfl o1) fun _ _ => .cls c
      | none =>
        cases h4 : g.ex.lookup x with
        | some c =>
          obtain ⟨m, _⟩ := G.gl.ex x c h4
          exact c_const (v := .ref (k.ca c)) (pe_glob (G.gl' hg) m rfl o1) fun _ _ => .cls c
        | none => exact no_E
theorem s_name (G : Good k g F d D ct X Wx) {x : Str} {pos : Pos} : PE X (.Name x pos) (tE k Wx (nameE g ct x)) := by
  unfold nameE
  cases ho : oddB x with
  | true => exact no_E
  | false =>
    rw [if_neg Bool.false_ne_true]
    obtain ⟨o1, o2, o3⟩ := oddB_ok ho
    by_cases hv : visB ct.sc x = true
    · rw [if_pos hv]
      cases hi : ixS ct.N x with
      | none => exact no_E
      | some i => exact c_var (by rw [G.hN]; exact ixS_ok hi) (by rw [G.sc]; exact visB_ok hv) o1 o2
    · rw [if_neg hv]
      by_cases hg : glB ct.sc x = true
      · rw [if_pos hg]; exact s_glob G ho hg
      · rw [if_neg hg]; exact no_E
theorem s_binF {op : Operator} {f : W → W → P W} (e : binF op = some f) : OpR X (binaryOp op) (rP2 k f) := by
  cases op <;> first | (cases e; done) | (cases e; first | exact o_add | exact o_sub | exact o_mul | exact o_mod | exact o_fdiv | exact o_pow)
theorem s_bin {a b : Expr} {ea eb : EE} {op : Operator} {pos : Pos} (ha : PE X a (tE k Wx ea)) (hb : PE X b (tE k Wx eb)) : PE X (.BinOp a op b pos) (tE k Wx (binE op ea eb)) := by
  unfold binE
  cases h : binF op with
  | none => exact no_E
  | some f => exact c_bin (s_binF h) ha hb
theorem s_cmpF (G : Good k g F d D ct X Wx) {op : CmpOp} {f : W → W → P W} (e : cmpF op = some f) : OpR X (compareOp op) (rP2 k f) := by
  cases op <;> (cases e; first | exact o_eqX G.room20 G.hK G.gl.exs G.gl.exq | exact o_ne G.units G.hK | exact o_lt | exact o_le | exact o_gt | exact o_ge | exact o_is | exact o_isNot | exact o_in G.units G.hK | exact o_notIn G.units G.hK)
theorem s_own (G : Good k g F d D ct X Wx) : OwnOk X k d (ownF g F) := fun c m e => by
  unfold ownF at e
  rw [Option.map_eq_some_iff] at e
  obtain ⟨j, e, rfl⟩ := e
  obtain ⟨f, fd, ps, h1, h2, h3, h4⟩ := G.gl.own c j e
  exact ⟨f, fd, ps, by rw [G.hK]; exact h1, by rw [G.hK]; exact h2, by rw [G.hK]; exact h3, by rw [G.hK]; exact h4⟩
theorem s_cmp (G : Good k g F d D ct X Wx) {a b : Expr} {ea eb : EE} {op : CmpOp} {pos : Pos} (ha : PE X a (tE k Wx ea)) (hb : PE X b (tE k Wx eb)) :
    PE X (.Compare a [op] [b] pos) (tE k Wx (cmpE g F op b ea eb)) ∧ PT X (.Compare a [op] [b] pos) (tT k Wx (evTb (cmpE g F op b ea eb))) := by
  unfold cmpE
  cases hm : behindInMarks op b with
  | true => exact ⟨no_E, ⟨fun _ _ _ _ _ _ ⟨_, _, _, _, t⟩ => False.elim t⟩⟩
  | false =>
    rw [if_neg Bool.false_ne_true]
    have usual : ∀ {f : W → W → P W}, cmpF op = some f → PE X (.Compare a [op] [b] pos) (tE k Wx (evB f ea eb)) ∧ PT X (.Compare a [op] [b] pos) (tT k Wx (evTb (evB f ea eb))) := fun e => ⟨c_cmp (s_cmpF G e) ha hb hm, c_cmpT (s_cmpF G e) ha hb hm⟩
    cases op with
    | Eq =>
      have o := o_eqM (own := ownF g F) G.tk G.room20 (G.room.mono (Nat.le_succ d)) G.hK G.gl.exs G.gl.exq (s_own G) (G.gl.ate X rfl rfl rfl rfl G.hK G.room G.room20 ⟨Wx, G.tk⟩)
      refine ⟨c_eqM o ha hb hm, (pt_cmpR o ha hb hm).imp fun σ H Q => t_test fun σ H Q ⟨ρ, env, h, S, t⟩ => ?_⟩
      refine ⟨ρ, env, h, S, t.bind.mono fun ρ1 h1 H1 wa g1 t1 v1 r1 => ?_⟩
      refine ⟨ρ1, env, h1, ⟨g1.hr, g1.en S.hr S.en⟩, t1.bind.mono fun ρ2 h2 H2 wb g2 t2 v2 r2 => ?_⟩
      exact ⟨ρ2, h2, wa, wb, g2.hr, g2.rw g1.hr r1, r2, t2.calm eqM_calm⟩
    | NotEq => exact usual rfl
    | Lt => exact usual rfl
    | LtE => exact usual rfl
    | Gt => exact usual rfl
    | GtE => exact usual rfl
    | Is => exact usual rfl
    | IsNot => exact usual rfl
    | In => exact usual rfl
    | NotIn => exact usual rfl
theorem s_chain (G : Good k g F d D ct X Wx) {a b b' : Expr} {ea eb eb' : EE} {op op' : CmpOp} {pos : Pos} (ha : PE X a (tE k Wx ea)) (hb : PE X b (tE k Wx eb)) (hb' : PE X b' (tE k Wx eb')) :
    PE X (.Compare a [op, op'] [b, b'] pos) (tE k Wx (chainE op op' b b' ea eb eb')) ∧ PT X (.Compare a [op, op'] [b, b'] pos) (tT k Wx (evTb (chainE op op' b b' ea eb eb'))) := by
  unfold chainE
  cases hm : lastMarks [op, op'] [b, b'] with
  | true => exact ⟨no_E, ⟨fun _ _ _ _ _ _ ⟨_, _, _, _, t⟩ => False.elim t⟩⟩
  | false =>
    rw [if_neg Bool.false_ne_true]
    split
    · rename_i f f' e e'
      exact ⟨c_chain (s_cmpF G e) (s_cmpF G e') ha hb hb' hm, c_chainT (s_cmpF G e) (s_cmpF G e') ha hb hb' hm⟩
    · exact ⟨no_E, ⟨fun _ _ _ _ _ _ ⟨_, _, _, _, t⟩ => False.elim t⟩⟩
theorem s_boolE (S : Snd k g F d D c) (G : Good k g F d D ct X Wx) {op : BoolOp} {pos : Pos} : ∀ es : List Expr, PE X (.BoolOp op es pos) (tE k Wx (boolE op (es.map (c.E ct))))
  | [] => by cases op <;> exact no_E
  | [a] => by cases op <;> exact c_and1 (S.E G a)
  | a :: b :: r => by
    have ih := s_boolE S G (op := op) (pos := pos) (b :: r)
    cases op
    · exact c_and (S.E G a) ih
    · exact c_or (S.E G a) ih
theorem s_boolT (S : Snd k g F d D c) (G : Good k g F d D ct X Wx) {op : BoolOp} {pos : Pos} : ∀ es : List Expr, PW X (.BoolOp op es pos) (tT k Wx (boolT op (es.map (c.T ct))))
  | [] => by cases op <;> exact no_W
  | [a] => by cases op <;> first | exact c_andT1 (S.T G a) | exact c_orT1 (S.T G a)
  | a :: b :: r => by
    have ih := s_boolT S G (op := op) (pos := pos) (b :: r)
    cases op
    · exact c_andT (S.T G a) ih
    · exact c_orT (S.T G a) ih
theorem s_neg {a : Expr} {ea : EE} {pos : Pos} (ha : PE X a (tE k Wx ea)) : PE X (.UnaryOp .USub a pos) (tE k Wx (evU negP ea)) := by
  refine (pe_un un_neg ha).imp fun σ H Q ⟨ρ, env, h, S, t⟩ => ⟨ρ, env, h, S, t.bind.mono fun ρ1 h1 H1 w g1 t1 v r => ?_⟩
  have t2 := t1.up
  unfold negP at t2
  split at t2
  · cases r
    exact ⟨_, rfl, t2.ok g1.hr _ (.int _)⟩
  · exact t2.fail.elim
theorem base_plain {o : Expr} {x : Str} {env : Env} {whole : Sem Value} (h : notSuper o = true) : attributeBase o x env whole = whole := by
  unfold attributeBase
  split
  · cases h
  · rfl
theorem ix_plain {b : Expr} (h : plainIx b = true) : PlainIx b := by
  intro o i
  cases b <;> first | rfl | cases h
end
end
end Ev
set_option Elab.async false
set_option linter.all false
set_option maxRecDepth 100000
namespace Ev
open PySem L2 PySem.Spec PyProof.Rows
noncomputable section

/-! ### calls -/
def dflW (fi : FnI) (a : Nat) : List W := fi.dws.drop (fi.dws.length - min (fi.n - a) fi.dws.length)
def bltF (g : Gt) (x : Str) : Option (Bool × String × (List W → P W)) :=
  if x = "len" then some (false, "len", lenP) else if x = "isinstance" then some (false, "isinstance", isiP g.isi) else if x = "int" then some (true, "int", intP) else if x = "str" then some (true, "str", strP)
  else if x = "abs" then some (false, "abs", absP) else if x = "max" then some (false, "max", maxP) else if x = "min" then some (false, "min", minP) else if x = "tuple" then some (true, "tuple", tupleP) else if x = "list" then some (true, "list", listP)
  else if x = "all" then some (false, "all", allP) else if x = "any" then some (false, "any", anyP) else if x = "sum" then some (false, "sum", sumP) else none
def callE (g : Gt) (F : Nat → List W → M W) (ct : Ct) (x : Str) (n : Nat) (a : EL) : EE := if oddB x = true then eE else if glB ct.sc x = false then eE else match g.fn.lookup x with
  | some fi => evCall fi.n (F fi.j) a (dflW fi n)
  | none => match g.cl.lookup x with
    | some (c, fi) => evNew c fi.n (F fi.j) a (dflW fi (n + 1))
    | none => match g.ex.lookup x with
      | some c => evExc c a
      | none => if g.bi.contains x = true then (match bltF g x with
        | some (_, _, f) => evCallP f a
        | none => eE) else eE
section
variable {k : Kx} {g : Gt} {F : Nat → List W → M W} {d : Nat} {D : Addr} {ct : Ct} {X : Cx} {Wx : WX} {c : Cp}
def bltV (b : Bool) (id : String) : Value := match b with
  | true => .type id
  | false => .builtin id
theorem s_blt (G : Good k g F d D ct X Wx) {x : Str} {b : Bool} {id : String} {f : List W → P W} (e : bltF g x = some (b, id, f)) : CallR X (bltV b id) (rPc k f) ∧ bootBuiltins x = some (bltV b id) := by
  unfold bltF at e
  by_cases h : x = "len"
  · rw [if_pos h] at e; cases e; subst h; exact ⟨b_len G.hK, by decide +kernel⟩
  rw [if_neg h] at e; clear h
  by_cases h : x = "isinstance"
  · rw [if_pos h] at e; cases e; subst h; exact ⟨b_isi G.hK G.gl.cls G.gl.exs G.gl.isi, by decide +kernel⟩
  rw [if_neg h] at e; clear h
  by_cases h : x = "int"
  · rw [if_pos h] at e; cases e; subst h; exact ⟨b_int, by decide +kernel⟩
  rw [if_neg h] at e; clear h
  by_cases h : x = "str"
  · rw [if_pos h] at e; cases e; subst h; exact ⟨b_str, by decide +kernel⟩
  rw [if_neg h] at e; clear h
  by_cases h : x = "abs"
  · rw [if_pos h] at e; cases e; subst h; exact ⟨b_abs, by decide +kernel⟩
  rw [if_neg h] at e; clear h
  by_cases h : x = "max"
  · rw [if_pos h] at e; cases e; subst h; exact ⟨b_max G.calm, by decide +kernel⟩
  rw [if_neg h] at e; clear h
  by_cases h : x = "min"
  · rw [if_pos h] at e; cases e; subst h; exact ⟨b_min G.calm, by decide +kernel⟩
  rw [if_neg h] at e; clear h
  by_cases h : x = "tuple"
  · rw [if_pos h] at e; cases e; subst h; exact ⟨b_tuple G.hK, by decide +kernel⟩
  rw [if_neg h] at e; clear h
  by_cases h : x = "list"
  · rw [if_pos h] at e; cases e; subst h; exact ⟨b_list G.hK, by decide +kernel⟩
  rw [if_neg h] at e; clear h
  by_cases h : x = "all"
  · rw [if_pos h] at e; cases e; subst h; exact ⟨b_all G.calm, by decide +kernel⟩
  rw [if_neg h] at e; clear h
  by_cases h : x = "any"
  · rw [if_pos h] at e; cases e; subst h; exact ⟨b_any G.calm, by decide +kernel⟩
  rw [if_neg h] at e; clear h
  by_cases h : x = "sum"
  · rw [if_pos h] at e; cases e; subst h; exact ⟨b_sum G.calm, by decide +kernel⟩
  rw [if_neg h] at e; clear h
  cases e
theorem s_call (S : Snd k g F d D c) (G : Good k g F d D ct X Wx) {x : Str} {e : Expr} {es : List Expr} {p pos : Pos} (hs : (e :: es).all notStar = true) (n : Nat) : PE X (.Call (.Name x p) (e :: es) [] pos) (tE k Wx (callE g F ct x n (evArgs (cA c ct (e :: es))))) := by
  have hs' := hs
  rw [List.all_cons, Bool.and_eq_true] at hs'
  have he := star1 (es := es) (env := X.env) hs'.1
  have hpl := star2 (pos := pos) (env := X.env) hs'.2
  have ha := s_A S G (e :: es)
  unfold callE
  cases ho : oddB x with
  | true => exact no_E
  | false =>
    obtain ⟨o1, o2, o3⟩ := oddB_ok ho
    rw [if_neg Bool.false_ne_true]
    cases hg : glB ct.sc x with
    | false => exact no_E
    | true =>
      rw [if_neg (fun z => nomatch z)]
      have hG := G.gl' hg
      cases h1 : g.fn.lookup x with
      | some fi =>
        obtain ⟨f, m, kp, ⟨fd, ps, ok, bd⟩⟩ := G.gl.fn x fi h1
        obtain ⟨dvs, ds, b, v, r⟩ := bd (min (fi.n - n) fi.dws.length) (Nat.min_le_right _ _)
        rw [← G.hK] at ok b kp
        exact c_call G.tk ok (G.room.mono (Nat.le_succ d)) hG m kp b v r ha o1 he hpl
      | none =>
        cases h2 : g.cl.lookup x with
        | some q =>
          obtain ⟨cc, fi⟩ := q
          obtain ⟨m, hc, f, mk, ⟨fd, ps, ok, bd⟩⟩ := G.gl.cl x cc fi h2
          obtain ⟨dvs, ds, b, v, r⟩ := bd (min (fi.n - (n + 1)) fi.dws.length) (Nat.min_le_right _ _)
          rw [← G.hK] at ok b mk
          exact c_new G.tk hc mk ok G.room hG m b v r ha o1 he hpl
        | none =>
          cases h3 : g.ex.lookup x with
          | some cc =>
            obtain ⟨m, c1, c2, fI, fd, i1, i2, ok, b⟩ := G.gl.ex x cc h3
            rw [← G.hK] at ok b i1 i2
            exact c_exc G.tk G.hK G.gl.exs c1 c2 i1 i2 ok G.room b hG m ha o1 he hpl
          | none =>
            dsimp only
            by_cases hb : g.bi.contains x = true
            · rw [if_pos hb]
              have m := G.gl.bi x (by simpa using hb)
              cases h4 : bltF g x with
              | none => exact no_E
              | some q =>
                obtain ⟨b, id, f⟩ := q
                obtain ⟨z1, z2⟩ := s_blt G h4
                cases b with
                | false => exact c_callB z1 hG m z2 ha o3 o1 he hpl
                | true => exact c_callTy z1 hG m z2 ha o3 o1 he hpl
            · rw [if_neg hb]; exact no_E
end
/-- f() -/
def call0E (g : Gt) (F : Nat → List W → M W) (ct : Ct) (x : Str) : EE := if oddB x = true then eE else if glB ct.sc x = false then eE else match g.fn.lookup x with
  | some fi => evCall fi.n (F fi.j) (evArgs []) (dflW fi 0)
  | none => eE
/-- o.m(..) -/
def mtF (x : Str) : Option ((W → P Unit) × (W → List W → P W)) :=
  if x = "split" then some (isStrP, splitP) else if x = "partition" then some (isStrP, partitionP) else if x = "join" then some (isStrP, joinP) else if x = "append" then some (isLstP, appendP) else if x = "extend" then some (isLstP, extendP) else if x = "lstrip" then some (isStrP, lstripP) else if x = "endswith" then some (isStrP, endsP) else none
def methE (g : Gt) (F : Nat → List W → M W) (o : Expr) (x : Str) (apos pos : Pos) (es : List Expr) (eo : EE) (a : List (Bool × EE)) : EE :=
  if (notSuper o && (es.all notStar && (decide (es.length < 30) && apos.endLine == pos.line))) = false then eE else match g.me.lookup x with
  | some (c, fi) => evMeth c fi.n (F fi.j) eo (evArgs a) (dflW fi (es.length + 1))
  | none => match es with
    | [] => eE
    | _ :: _ => match mtF x with
      | some (q, f) => evM q f eo (evArgs a)
      | none => eE
section
variable {k : Kx} {g : Gt} {F : Nat → List W → M W} {d : Nat} {D : Addr} {ct : Ct} {X : Cx} {Wx : WX} {c : Cp}
theorem s_call0 (G : Good k g F d D ct X Wx) {x : Str} {p pos : Pos} : PE X (.Call (.Name x p) [] [] pos) (tE k Wx (call0E g F ct x)) := by
  unfold call0E
  cases ho : oddB x with
  | true => exact no_E
  | false =>
    obtain ⟨o1, o2, o3⟩ := oddB_ok ho
    rw [if_neg Bool.false_ne_true]
    cases hg : glB ct.sc x with
    | false => exact no_E
    | true =>
      rw [if_neg (fun z => nomatch z)]
      have hG := G.gl' hg
      cases h1 : g.fn.lookup x with
      | some fi =>
        obtain ⟨f, m, kp, ⟨fd, ps, ok, bd⟩⟩ := G.gl.fn x fi h1
        obtain ⟨dvs, ds, b, v, r⟩ := bd (min (fi.n - 0) fi.dws.length) (Nat.min_le_right _ _)
        rw [← G.hK] at ok b kp
        exact c_call0 G.tk ok (G.room.mono (Nat.le_succ d)) hG m kp b v r o1
      | none => exact no_E
theorem all_back {pos : Pos} {env : Env} : ∀ {es : List Expr}, es.all notStar = true → (backTo pos (starEach es env)).all (fun x => !x.1) = true
  | [], _ => rfl
  | e :: es, h => by
    rw [List.all_cons, Bool.and_eq_true] at h
    rw [star1 h.1]
    show (true && (backTo pos (starEach es env)).all (fun x => !x.1)) = true
    rw [all_back h.2]; rfl
theorem meth_ht {o : Expr} {x : Str} {apos pos : Pos} {es : List Expr} {env : Env} (h1 : notSuper o = true) (h2 : es.all notStar = true) (h3 : es.length < 30) (h4 : (apos.endLine == pos.line) = true) :
    eval (.Call (.Attribute o x apos) es [] pos) env = (do
      let ov ← eval o env
      standAt apos.atName
      let (f, first) ← holding [ov] (getMethod ov x (do return (← importBound o env).getD true))
      callWith pos f first (backTo pos (starEach es env)) (backToKw pos (keywordEach [] env))) := by
  have e1 : methodCallForm (es.length + ([] : List Keyword).length) (backTo pos (starEach es env)) (backToKw pos (keywordEach [] env)) = true := by
    unfold methodCallForm
    rw [all_back h2]
    simp [backToKw, keywordEach, h3]
  have e2 : ∀ few, methodCallPos few o env apos pos = if few = true then pure pos else pure pos := fun few => by
    unfold methodCallPos
    cases few
    · rfl
    · rw [h4]; rfl
  show (attributeBase o x env (eval o env) >>= fun ov => standAt apos.atName >>= fun _ => methodCall o x apos pos env ov (es.length + ([] : List Keyword).length) (backTo pos (starEach es env)) (backToKw pos (keywordEach [] env))) = _
  rw [base_plain h1]
  unfold methodCall
  rw [e1, e2]
  rfl
theorem s_mt (G : Good k g F d D ct X Wx) {x : Str} {q : W → P Unit} {f : W → List W → P W} (e : mtF x = some (q, f)) : ∃ T id, Ty k T q ∧ PlainAttrs T ∧ Slot T x id ∧ typeOf (.builtin id) = pure (.type "method_descriptor") ∧ MtR X id (rPm k f) := by
  unfold mtF at e
  by_cases h : x = "split"
  · rw [if_pos h] at e; cases e; subst h; exact ⟨_, _, ty_str, PySem.F.plainAttrs_str, PySem.F.slot_str_split, PySem.F.type_str_split, m_split⟩
  rw [if_neg h] at e; clear h
  by_cases h : x = "partition"
  · rw [if_pos h] at e; cases e; subst h; exact ⟨_, _, ty_str, PySem.F.plainAttrs_str, PySem.F.slot_str_partition, PySem.F.type_str_partition, m_partition⟩
  rw [if_neg h] at e; clear h
  by_cases h : x = "join"
  · rw [if_pos h] at e; cases e; subst h; exact ⟨_, _, ty_str, PySem.F.plainAttrs_str, PySem.F.slot_str_join, PySem.F.type_str_join, m_join G.hK⟩
  rw [if_neg h] at e; clear h
  by_cases h : x = "append"
  · rw [if_pos h] at e; cases e; subst h; exact ⟨_, _, ty_lst, PySem.F.plainAttrs_list, PySem.F.slot_list_append, PySem.F.type_list_append, m_append⟩
  rw [if_neg h] at e; clear h
  by_cases h : x = "extend"
  · rw [if_pos h] at e; cases e; subst h; exact ⟨_, _, ty_lst, PySem.F.plainAttrs_list, PySem.F.slot_list_extend, PySem.F.type_list_extend, m_extend⟩
  rw [if_neg h] at e; clear h
  by_cases h : x = "lstrip"
  · rw [if_pos h] at e; cases e; subst h; exact ⟨_, _, ty_str, PySem.F.plainAttrs_str, PySem.F.slot_str_lstrip, PySem.F.type_str_lstrip, m_lstrip⟩
  rw [if_neg h] at e; clear h
  by_cases h : x = "endswith"
  · rw [if_pos h] at e; cases e; subst h; exact ⟨_, _, ty_str, PySem.F.plainAttrs_str, PySem.F.slot_str_endswith, PySem.F.type_str_endswith, m_endswith⟩
  rw [if_neg h] at e; clear h
  cases e
theorem s_meth (S : Snd k g F d D c) (G : Good k g F d D ct X Wx) {o : Expr} {x : Str} {es : List Expr} {apos pos : Pos} : PE X (.Call (.Attribute o x apos) es [] pos) (tE k Wx (methE g F o x apos pos es (c.E ct o) (cA c ct es))) := by
  unfold methE
  cases hc : (notSuper o && (es.all notStar && (decide (es.length < 30) && apos.endLine == pos.line))) with
  | false => exact no_E
  | true =>
    rw [if_neg (fun z => nomatch z)]
    obtain ⟨h1, hc⟩ := Bool.and_eq_true_iff.mp hc
    obtain ⟨h2, hc⟩ := Bool.and_eq_true_iff.mp hc
    obtain ⟨h3, h4⟩ := Bool.and_eq_true_iff.mp hc
    have h3 := of_decide_eq_true h3
    have ht := meth_ht (x := x) (env := X.env) h1 h2 h3 h4
    have ho := S.E G o
    cases hm : g.me.lookup x with
    | some q =>
      obtain ⟨cc, fi⟩ := q
      obtain ⟨hcc, f, mt, ⟨fd, ps, ok, bd⟩⟩ := G.gl.me x cc fi hm
      obtain ⟨dvs, ds, b, v, r⟩ := bd (min (fi.n - (es.length + 1)) fi.dws.length) (Nat.min_le_right _ _)
      have nm := G.gl.me0 x cc fi hm
      rw [← G.hK] at ok b mt
      cases es with
      | nil => exact c_meth0 G.tk G.hK G.gl.cls nm mt ok (G.room.mono (Nat.le_succ d)) b v r ho hcc ht
      | cons e es =>
        have hs' := h2
        rw [List.all_cons, Bool.and_eq_true] at hs'
        exact c_meth G.tk G.hK G.gl.cls nm mt ok (G.room.mono (Nat.le_succ d)) b v r ho (s_A S G (e :: es)) hcc (star1 hs'.1) (star2 hs'.2) ht
    | none =>
      cases es with
      | nil => exact no_E
      | cons e es =>
        have hs' := h2
        rw [List.all_cons, Bool.and_eq_true] at hs'
        dsimp only
        cases hf : mtF x with
        | none => exact no_E
        | some q =>
          obtain ⟨q, f⟩ := q
          obtain ⟨T, id, ty, pa, sl, tp, m⟩ := s_mt G hf
          refine c_bm G.hK ty pa sl tp m ho (s_A S G (e :: es)) (base_plain h1) ?_ h4 (star1 hs'.1) (star2 hs'.2)
          rw [all_back h2]
          simp only [backToKw, keywordEach, List.map_nil, List.all_nil, Bool.true_and, List.length_nil, Nat.add_zero, List.isEmpty_nil, if_true]
          exact decide_eq_true h3
end
end
end Ev
set_option Elab.async false
set_option linter.all false
set_option maxRecDepth 100000
namespace Ev
open PySem L2 PySem.Spec PyProof.Rows
noncomputable section

/-! ### comprehensions -/
def blkCt (ct : Ct) (scope : Scope) : Ct := ⟨ct.N, relS scope ct.sc, fun x => scope.names.lookup x == some .cell, ct.jn⟩
def ownL (N : List Str) : List (Str × NameKind) → List (Str × Nat)
  | [] => []
  | (x, kd) :: r => if (kd == .local || kd == .cell) = true then (match ixS N x with
    | some i => (x, i) :: ownL N r
    | none => ownL N r) else ownL N r
def notSet : Expr → Bool
  | .Set _ _ _ => false
  | _ => true
def ifsT (c : Cp) (ct : Ct) : List Expr → ET
  | [] => fun _ => pure true
  | [e] => c.T ct e
  | _ => eT
def lcE (c : Cp) (ct : Ct) (elt tg it : Expr) (ifs : List Expr) (scope : Scope) : EE := match c.G (blkCt ct scope) tg with
  | none => eE
  | some t => if (notSet it && (blkC ct.N ct.sc scope (ownL ct.N scope.names) && t.sl.all fun i => ((ownL ct.N scope.names).map (·.2)).contains i)) = true then
      evLc (c.I ct tg it) ((ownL ct.N scope.names).map (·.2)) t (ifsT c (blkCt ct scope) ifs) (jnE ct (c.E (blkCt ct scope) elt)) else eE
def dcE (c : Cp) (ct : Ct) (kx elt tg it : Expr) (ifs : List Expr) (scope : Scope) : EE := match c.G (blkCt ct scope) tg with
  | none => eE
  | some t => if (notSet it && (blkC ct.N ct.sc scope (ownL ct.N scope.names) && t.sl.all fun i => ((ownL ct.N scope.names).map (·.2)).contains i)) = true then
      evDc (c.I ct tg it) ((ownL ct.N scope.names).map (·.2)) t (ifsT c (blkCt ct scope) ifs) (c.E (blkCt ct scope) kx) (c.E (blkCt ct scope) elt) else eE
section
variable {k : Kx} {g : Gt} {F : Nat → List W → M W} {d : Nat} {D : Addr} {ct : Ct} {X : Cx} {Wx : WX} {c : Cp}
theorem Good.blk (G : Good k g F d D ct X Wx) {scope : Scope} (s : Shared) (H : Hp) (C : Addr) (cl : List (Str × Addr)) (fp : List Addr) : Good k g F d D (blkCt ct scope) (X.blk s H scope (compEnvC scope cl C X.env) fp) wF where
  hK := G.hK
  hN := G.hN
  nd := G.nd
  sc := by
    show relS scope X.env.scope = relS scope ct.sc
    rw [G.sc]
  fn := rfl
  calm := G.calm
  pas := PassesOwn.never
  tk := fun u s' ⟨a, B, sI, pins, σ, H, cls, d, e, I, nb, up, sky, na, os, ag, w⟩ => w
  room := G.room
  room20 := G.room20
  gl := G.gl
theorem folded_plain {e : Expr} {env : Env} (h : notSet e = true) (x : Value) : foldedSetIterable e env x = pure x := by
  unfold foldedSetIterable
  cases e <;> first | rfl | cases h
theorem s_ifs (S : Snd k g F d D c) (G : Good k g F d D ct X wF) : ∀ es, PTs X es (tT k wF (ifsT c ct es))
  | [] => ⟨fun pins s σ H Q I ⟨ρ, env, h, S, t⟩ => pts_nil.run pins s σ H Q I (t.pure S.hr)⟩
  | [e] => pts_one (S.T G e)
  | _ :: _ :: _ => ⟨fun _ _ _ _ _ _ ⟨_, _, _, _, t⟩ => False.elim t⟩
theorem s_lc (S : Snd k g F d D c) (G : Good k g F d D ct X Wx) {elt tg it : Expr} {ifs : List Expr} {scope : Scope} {pos : Pos} : PE X (.ListComp elt [⟨tg, it, ifs, 0⟩] scope pos) (tE k Wx (lcE c ct elt tg it ifs scope)) := by
  unfold lcE
  cases hg : c.G (blkCt ct scope) tg with
  | none => exact no_E
  | some t =>
    dsimp only
    by_cases hc : (notSet it && (blkC ct.N ct.sc scope (ownL ct.N scope.names) && t.sl.all fun i => ((ownL ct.N scope.names).map (·.2)).contains i)) = true
    · rw [if_pos hc]
      obtain ⟨h1, hc⟩ := Bool.and_eq_true_iff.mp hc
      obtain ⟨h2, h3⟩ := Bool.and_eq_true_iff.mp hc
      refine (pe_lc G.calm G.nd (S.I G tg it) (own := ownL ct.N scope.names) (by rw [G.hN, G.sc]; exact blkOk_by h2) (fun s H C cl fp => S.G (G.blk s H C cl fp) tg t hg) (fun s H C cl fp => s_ifs S (G.blk s H C cl fp) ifs) (fun s H C cl fp => s_jnE (ct := ct) (S.E (G.blk s H C cl fp) elt)) (folded_plain h1)).imp fun σ H Q => ?_
      exact t_lc fun i hi => by
        have := List.all_eq_true.mp h3 i hi
        simpa using this
    · rw [if_neg hc]; exact no_E
theorem s_dc (S : Snd k g F d D c) (G : Good k g F d D ct X Wx) {kx elt tg it : Expr} {ifs : List Expr} {scope : Scope} {pos : Pos} : PE X (.DictComp kx elt [⟨tg, it, ifs, 0⟩] scope pos) (tE k Wx (dcE c ct kx elt tg it ifs scope)) := by
  unfold dcE
  cases hg : c.G (blkCt ct scope) tg with
  | none => exact no_E
  | some t =>
    dsimp only
    by_cases hc : (notSet it && (blkC ct.N ct.sc scope (ownL ct.N scope.names) && t.sl.all fun i => ((ownL ct.N scope.names).map (·.2)).contains i)) = true
    · rw [if_pos hc]
      obtain ⟨h1, hc⟩ := Bool.and_eq_true_iff.mp hc
      obtain ⟨h2, h3⟩ := Bool.and_eq_true_iff.mp hc
      refine (pe_dc G.calm G.nd (S.I G tg it) (own := ownL ct.N scope.names) (by rw [G.hN, G.sc]; exact blkOk_by h2) (fun s H C cl fp => S.G (G.blk s H C cl fp) tg t hg) (fun s H C cl fp => s_ifs S (G.blk s H C cl fp) ifs) (fun s H C cl fp => S.E (G.blk s H C cl fp) kx) (fun s H C cl fp => S.E (G.blk s H C cl fp) elt) (folded_plain h1)).imp fun σ H Q => ?_
      exact t_dc fun i hi => by
        have := List.all_eq_true.mp h3 i hi
        simpa using this
    · rw [if_neg hc]; exact no_E
end

/-! ### targets, iterables -/
def locB (ct : Ct) (x : Str) : Bool := match ct.sc.names.lookup x with
  | some .local => true
  | some .cell => ct.fn x
  | _ => false
def tgE (c : Cp) (ct : Ct) : Expr → Option TgE
  | .Name x _ => if locB ct x = true then (ixS ct.N x).map gN else none
  | .Tuple es _ _ => if es.all notStar = true then (es.mapM (c.G ct)).map gT else none
  | _ => none
def itE (g : Gt) (c : Cp) (ct : Ct) (t : Expr) : Expr → En → M (Src × Nat)
  | .Call (.Name x p) [a] [] pos => if (x == "range" && (glB ct.sc x && (g.bi.contains x && notStar a))) = true then evSrc rng1P (evArgs (cA c ct [a]))
    else if (x == "enumerate" && (glB ct.sc x && (g.bi.contains x && notStar a))) = true then (match t with
      | .Tuple _ _ _ => evSrc enumP (evArgs (cA c ct [a]))
      | _ => eI) else evIter (c.E ct (.Call (.Name x p) [a] [] pos))
  | .Call (.Name x p) [a, b] [] pos => if (x == "range" && (glB ct.sc x && (g.bi.contains x && (notStar a && notStar b)))) = true then evSrc rng2P (evArgs (cA c ct [a, b])) else evIter (c.E ct (.Call (.Name x p) [a, b] [] pos))
  | e => evIter (c.E ct e)
section
variable {k : Kx} {g : Gt} {F : Nat → List W → M W} {d : Nat} {D : Addr} {ct : Ct} {X : Cx} {Wx : WX} {c : Cp}
theorem locB_ok (G : Good k g F d D ct X Wx) {x : Str} (h : locB ct x = true) : Loc X.env.scope x ∧ (X.fn x = true ∨ X.env.scope.names.lookup x = some .local) := by
  unfold locB at h
  rw [G.sc, G.fn]
  split at h
  · rename_i e; exact ⟨.inl e, .inr e⟩
  · rename_i e; exact ⟨.inr e, .inl h⟩
  · cases h
theorem asg1 {t : Expr} {ts : List Expr} {env : Env} (h : notStar t = true) : assignEach (t :: ts) env = (false, assign t env) :: assignEach ts env := by
  cases t <;> first | rfl | cases h
theorem s_tgs (S : Snd k g F d D c) (G : Good k g F d D ct X Wx) : ∀ {es : List Expr} {gs : List TgE}, es.all notStar = true → es.mapM (c.G ct) = some gs → PGs X es (tGs k gs) ∧ (assignEach es X.env).length = gs.length ∧ (assignEach es X.env).findIdx? (·.1) = none
  | [], gs, _, e => by
    simp at e; subst e
    exact ⟨g_nil, rfl, rfl⟩
  | e :: es, gs, h, eq => by
    rw [List.all_cons, Bool.and_eq_true] at h
    rw [List.mapM_cons] at eq
    simp only [Option.bind_eq_bind, Option.pure_def, Option.bind_eq_some_iff, Option.some.injEq] at eq
    obtain ⟨t, h1, ts, h2, rfl⟩ := eq
    obtain ⟨i1, i2, i3⟩ := s_tgs S G h.2 h2
    refine ⟨g_cons (S.G G e t h1) i1 ?_, ?_, ?_⟩
    · rw [asg1 h.1]; rfl
    · rw [asg1 h.1, List.length_cons, List.length_cons, i2]
    · rw [asg1 h.1, List.findIdx?_cons, i3]; rfl
theorem s_tg (S : Snd k g F d D c) (G : Good k g F d D ct X Wx) (e : Expr) (t : TgE) (h : tgE c ct e = some t) : PG X e (tG k t) := by
  unfold tgE at h
  split at h
  · rename_i x _
    by_cases hl : locB ct x = true
    · rw [if_pos hl, Option.map_eq_some_iff] at h
      obtain ⟨i, hi, rfl⟩ := h
      obtain ⟨l1, l2⟩ := locB_ok G hl
      exact g_name G.nd (by rw [G.hN]; exact ixS_ok hi) l1 l2
    · rw [if_neg hl] at h; cases h
  · rename_i es _ _
    by_cases hl : es.all notStar = true
    · rw [if_pos hl, Option.map_eq_some_iff] at h
      obtain ⟨gs, hi, rfl⟩ := h
      obtain ⟨i1, i2, i3⟩ := s_tgs S G hl hi
      exact g_tup G.calm G.hK i1 i2 i3
    · rw [if_neg hl] at h; cases h
  · cases h
theorem s_it (S : Snd k g F d D c) (G : Good k g F d D ct X Wx) (t e : Expr) : PI X t e (tI k Wx (itE g c ct t e)) := by
  unfold itE
  split
  · rename_i x p a pos
    by_cases h : (x == "range" && (glB ct.sc x && (g.bi.contains x && notStar a))) = true
    · rw [if_pos h]
      simp only [Bool.and_eq_true, beq_iff_eq] at h
      obtain ⟨rfl, h1, h2, h3⟩ := h
      exact c_range1 (G.gl' h1) (G.gl.bi _ (by simpa using h2)) (s_A S G [a]) (star1 h3)
    · rw [if_neg h]
      by_cases h : (x == "enumerate" && (glB ct.sc x && (g.bi.contains x && notStar a))) = true
      · rw [if_pos h]
        simp only [Bool.and_eq_true, beq_iff_eq] at h
        obtain ⟨rfl, h1, h2, h3⟩ := h
        split
        · exact c_enum G.hK (G.gl' h1) (G.gl.bi _ (by simpa using h2)) (s_A S G [a]) (star1 h3)
        · exact no_I
      · rw [if_neg h]; exact c_iter G.hK (S.E G _)
  · rename_i x p a b pos
    by_cases h : (x == "range" && (glB ct.sc x && (g.bi.contains x && (notStar a && notStar b)))) = true
    · rw [if_pos h]
      simp only [Bool.and_eq_true, beq_iff_eq] at h
      obtain ⟨rfl, h1, h2, h3, h4⟩ := h
      exact c_range2 (G.gl' h1) (G.gl.bi _ (by simpa using h2)) (s_A S G [a, b]) (by rw [star1 h3, star1 h4]; rfl) (star1 h4)
    · rw [if_neg h]; exact c_iter G.hK (S.E G _)
  · exact c_iter G.hK (S.E G _)
end
end
end Ev
set_option Elab.async false
set_option linter.all false
set_option maxRecDepth 100000
namespace Ev
open PySem L2 PySem.Spec PyProof.Rows
noncomputable section

/-! ### sorted(set(e)) -/
def sortSetP : W → P W
  | .ref i => P.lst i fun xs => match xs with
    | [] => P.new (.lst [])
    | _ => P.fail
  | _ => P.fail
section
variable {X : Cx} {k : Kx} {Wx : WX}
theorem c_sortset {a : Expr} {ea : EE} {p p2 q pos : Pos} (hc : X.calm = true) (hu : X.A.units + 64 < cLine) (hg : Gl X "sorted") (hm : X.mg "sorted" = none) (hg2 : Gl X "set") (hm2 : X.mg "set" = none) (ha : PE X a (tE k Wx ea)) (hs : notStar a = true) :
    PE X (.Call (.Name "sorted" p) [.Call (.Name "set" p2) [a] [] q] [] pos) (tE k Wx (evU sortSetP ea)) := by
  have h2 := pe_callTy (p := p2) (pos := q) (cr_setOfT hc hu) hg2 hm2 PyProof.Rows.boot_set (pa_cons ha pa_nil (star1 hs)) (by decide) (by decide) (star1 hs) rfl
  have h3 := pa_cons (es := []) h2 pa_nil rfl
  refine (pe_callB (p := p) (pos := pos) (cr_sortedT hc) hg hm (by decide +kernel) h3 (by decide) (by decide) rfl rfl).imp fun σ H Q ⟨ρ, env, h, S, t⟩ => ?_
  refine ⟨ρ, env, h, S, t.bind.mono fun ρ1 h1 H1 w g1 t1 v r => ?_⟩
  have t2 := t1.up
  unfold sortSetP at t2
  split at t2
  · obtain ⟨xs, e, t3⟩ := t2.lst
    split at t3
    · obtain ⟨a, vs, rfl, _, ea, rs⟩ := RW.list g1.hr r e
      cases rs
      refine ⟨a, [], rfl, SqL.of ea, fun p hp => (by cases hp), by decide, fun c L nc hL _ => ?_⟩
      have eL : L = [] := by
        cases L with
        | nil => rfl
        | cons p L => exact absurd (hL p List.mem_cons_self) (by simp)
      subst eL
      refine ⟨c, [], 1, 1, rfl, upd_same, fun p hp => (by cases hp), by decide, fun p hp => (by cases hp), fun L' p pm _ _ _ np => ?_⟩
      obtain rfl := pm.eq_nil
      have g2 := g1.hr.pushT (u := SetTO X.prog X.w c []) nc
      have g3 := g2.trans (g2.hr.push (p := p) (u := .lst []) (o := .lst []) np ⟨[], upd_same, .nil⟩)
      exact t3 _ _ g3 _ (RW.last g1.hr)
    · exact t3.fail.elim
  · exact t2.fail.elim
end
end
end Ev
set_option Elab.async false
set_option linter.all false
set_option maxRecDepth 100000
namespace Ev
open PySem L2 PySem.Spec PyProof.Rows
noncomputable section

/-! ### expressions -/
def partE (c : Cp) (ct : Ct) : Option Expr → Option EE
  | none => none
  | some e => some (c.E ct e)
def fldE (g : Gt) (x : Str) (o : Expr) (eo : EE) : EE := if notSuper o = true then (match g.fl.lookup x with
  | some f => evFldX g.fv eo f
  | none => eE) else eE
def pairsE (c : Cp) (ct : Ct) : List (Option Expr) → List Expr → Option (List (EE × EE))
  | [], [] => some []
  | some a :: ks, b :: vs => (pairsE c ct ks vs).map ((c.E ct a, c.E ct b) :: ·)
  | _, _ => none
def dictE (c : Cp) (ct : Ct) (ks : List (Option Expr)) (vs : List Expr) : EE := match pairsE c ct ks vs with
  | some l => if l.length ≤ 15 then evDisp l else eE
  | none => eE
/-- sorted(set(a)) -/
def sortSetOf : Str → List Expr → Option Expr
  | x, [.Call (.Name y _) [a] [] _] => if (x == ("sorted" : Str) && (y == ("set" : Str) && notStar a)) = true then some a else none
  | _, _ => none
def sortSetE (g : Gt) (ct : Ct) (ea : EE) : EE := if (glB ct.sc "sorted" && (glB ct.sc "set" && (g.bi.contains "sorted" && g.bi.contains "set"))) = true then evU sortSetP ea else eE
def callE1 (g : Gt) (F : Nat → List W → M W) (c : Cp) (ct : Ct) (x : Str) (e : Expr) (es : List Expr) : EE := match sortSetOf x (e :: es) with
  | some a => sortSetE g ct (c.E ct a)
  | none => if (e :: es).all notStar = true then (if (x == ("len" : Str) && (glB ct.sc x && g.bi.contains x)) = true then evCallM lenM (evArgs (cA c ct (e :: es))) else callE g F ct x (e :: es).length (evArgs (cA c ct (e :: es)))) else eE
def stE (g : Gt) (F : Nat → List W → M W) (c : Cp) (ct : Ct) : Expr → EE
  | .Constant v _ _ => constE v
  | .Name x _ => nameE g ct x
  | .Tuple es _ _ => evTup (evArgs (cA c ct es))
  | .List es _ => evLst (evArgs (cA c ct es))
  | .BinOp a op b _ => binE op (c.E ct a) (c.E ct b)
  | .Compare a [op] [b] _ => cmpE g F op b (c.E ct a) (c.E ct b)
  | .Compare a [op, op'] [b, b'] _ => chainE op op' b b' (c.E ct a) (c.E ct b) (c.E ct b')
  | .BoolOp op es _ => boolE op (es.map (c.E ct))
  | .UnaryOp .Not a _ => evNot (c.E ct a)
  | .UnaryOp .USub a _ => evU negP (c.E ct a)
  | .IfExp t a b _ => evIf (c.T ct t) (c.E ct a) (c.E ct b)
  | .Subscript a (.Slice lo hi none _) _ => evSl (c.E ct a) (partE c ct lo) (partE c ct hi)
  | .Subscript a b _ => if plainIx b = true then evB ixW (c.E ct a) (c.E ct b) else eE
  | .Attribute a x _ => fldE g x a (c.E ct a)
  | .Call (.Name x _) [] [] _ => call0E g F ct x
  | .Call (.Name x _) (e :: es) [] _ => callE1 g F c ct x e es
  | .Call (.Attribute o x apos) es [] pos => methE g F o x apos pos es (c.E ct o) (cA c ct es)
  | .ListComp elt [⟨tg, it, ifs, a⟩] scope _ => if a = 0 then lcE c ct elt tg it ifs scope else eE
  | .Dict ks vs _ => dictE c ct ks vs
  | .DictComp kx elt [⟨tg, it, ifs, a⟩] scope _ => if a = 0 then dcE c ct kx elt tg it ifs scope else eE
  | _ => eE
def stT (g : Gt) (F : Nat → List W → M W) (c : Cp) (ct : Ct) : Expr → ET
  | .UnaryOp .Not a _ => evNotT (c.T ct a)
  | .BoolOp op es _ => boolT op (es.map (c.T ct))
  | .Compare a [op] [b] _ => evTb (cmpE g F op b (c.E ct a) (c.E ct b))
  | .Compare a [op, op'] [b, b'] _ => evTb (chainE op op' b b' (c.E ct a) (c.E ct b) (c.E ct b'))
  | .Compare _ _ _ _ => eT
  | .IfExp _ _ _ _ => eT
  | e => evTru (c.E ct e)
section
variable {k : Kx} {g : Gt} {F : Nat → List W → M W} {d : Nat} {D : Addr} {ct : Ct} {X : Cx} {Wx : WX} {c : Cp}
theorem s_part (S : Snd k g F d D c) (G : Good k g F d D ct X Wx) (e : Option Expr) : PO X e (tP k Wx (partE c ct e)) := by
  cases e with
  | none => exact c_part0
  | some e => exact c_part (S.E G e)
theorem s_pairs (S : Snd k g F d D c) (G : Good k g F d D ct X Wx) {pos : Pos} : ∀ {ks : List (Option Expr)} {vs : List Expr} {l : List (EE × EE)}, pairsE c ct ks vs = some l → PPs X pos ks vs (trsOf k Wx l) ∧ ks.all (·.isSome) = true ∧ ks.length = vs.length ∧ ks.length = l.length
  | [], [], l, e => by cases e; exact ⟨pps_nil, rfl, rfl, rfl⟩
  | [], _ :: _, l, e => by cases e
  | none :: _, _, l, e => by cases e
  | some _ :: _, [], l, e => by cases e
  | some a :: ks, b :: vs, l, e => by
    have e' : (pairsE c ct ks vs).map ((c.E ct a, c.E ct b) :: ·) = some l := e
    rw [Option.map_eq_some_iff] at e'
    obtain ⟨l', e2, rfl⟩ := e'
    obtain ⟨h1, h2, h3, h4⟩ := s_pairs S G (pos := pos) e2
    exact ⟨pps_cons (S.E G a) (S.E G b) h1, by rw [List.all_cons, h2]; rfl, by rw [List.length_cons, List.length_cons, h3], by rw [List.length_cons, List.length_cons, h4]⟩
theorem s_dict (S : Snd k g F d D c) (G : Good k g F d D ct X Wx) {ks : List (Option Expr)} {vs : List Expr} {pos : Pos} : PE X (.Dict ks vs pos) (tE k Wx (dictE c ct ks vs)) := by
  unfold dictE
  cases h : pairsE c ct ks vs with
  | none => exact no_E
  | some l =>
    dsimp only
    by_cases hl : l.length ≤ 15
    · rw [if_pos hl]
      obtain ⟨h1, h2, h3, h4⟩ := s_pairs S G (pos := pos) h
      cases ks with
      | nil =>
        cases vs with
        | cons _ _ => cases h
        | nil =>
          cases h
          refine pe_dnewK.imp fun σ H Q ⟨ρ, env, hh, Sm, t⟩ p np => ?_
          have g1 := Sm.hr.push (p := p) (u := .dK []) (o := .dct []) np ⟨[], upd_same, rfl, .nil⟩
          exact t _ _ g1 _ (RW.last Sm.hr)
      | cons a ks => exact (pe_disp h1 h2 h3 (by simp) (by rw [h4]; exact hl)).imp fun _ _ _ => t_disp
    · rw [if_neg hl]; exact no_E
theorem s_call1 (S : Snd k g F d D c) (G : Good k g F d D ct X Wx) {x : Str} {e : Expr} {es : List Expr} {p pos : Pos} : PE X (.Call (.Name x p) (e :: es) [] pos) (tE k Wx (callE1 g F c ct x e es)) := by
  unfold callE1
  cases hq : sortSetOf x (e :: es) with
  | none =>
    by_cases h : (e :: es).all notStar = true
    · dsimp only; rw [if_pos h]
      by_cases hl : (x == ("len" : Str) && (glB ct.sc x && g.bi.contains x)) = true
      · rw [if_pos hl]
        obtain ⟨l1, hl⟩ := Bool.and_eq_true_iff.mp hl
        obtain ⟨l2, l3⟩ := Bool.and_eq_true_iff.mp hl
        have := beq_iff_eq.mp l1
        subst this
        have hs := h
        rw [List.all_cons, Bool.and_eq_true] at hs
        exact c_callBM (b_lenM G.hK G.gl.sl) (G.gl' l2) (G.gl.bi _ (by simpa using l3)) PySem.boot_len (s_A S G (e :: es)) (by decide) (by decide) (star1 hs.1) (star2 hs.2)
      · rw [if_neg hl]; exact s_call S G h _
    · dsimp only; rw [if_neg h]; exact no_E
  | some a =>
    unfold sortSetOf at hq
    split at hq
    · rename_i y _ b _ he
      cases he
      split at hq
      · rename_i hx
        cases hq
        simp only [Bool.and_eq_true, beq_iff_eq] at hx
        obtain ⟨rfl, rfl, hs⟩ := hx
        unfold sortSetE
        by_cases h : (glB ct.sc "sorted" && (glB ct.sc "set" && (g.bi.contains "sorted" && g.bi.contains "set"))) = true
        · dsimp only
          rw [if_pos h]
          simp only [Bool.and_eq_true] at h
          obtain ⟨h1, h2, h3, h4⟩ := h
          exact c_sortset G.calm G.units (G.gl' h1) (G.gl.bi _ (by simpa using h3)) (G.gl' h2) (G.gl.bi _ (by simpa using h4)) (S.E G a) hs
        · dsimp only; rw [if_neg h]; exact no_E
      · cases hq
    · cases hq
theorem s_E (S : Snd k g F d D c) (G : Good k g F d D ct X Wx) (e : Expr) : PE X e (tE k Wx (stE g F c ct e)) := by
  unfold stE
  split
  · exact s_const _
  · exact s_name G
  · exact c_tup (s_A S G _)
  · exact c_lst (s_A S G _)
  · exact s_bin (S.E G _) (S.E G _)
  · exact (s_cmp G (S.E G _) (S.E G _)).1
  · exact (s_chain G (S.E G _) (S.E G _) (S.E G _)).1
  · exact s_boolE S G _
  · exact c_not (S.E G _)
  · exact s_neg (S.E G _)
  · exact c_if (S.T G _) (S.E G _) (S.E G _)
  · exact c_sl G.hK (S.E G _) (s_part S G _) (s_part S G _)
  · rename_i a b _ _
    by_cases h : plainIx b = true
    · rw [if_pos h]; exact c_ix G.units G.hK (S.E G _) (S.E G _) (ix_plain h)
    · rw [if_neg h]; exact no_E
  · rename_i a x _
    unfold fldE
    by_cases h : notSuper a = true
    · rw [if_pos h]
      cases hf : g.fl.lookup x with
      | none => exact no_E
      | some f => exact c_fldX G.gl.cls G.gl.exs G.hK G.gl.fv (G.gl.nm x f hf) (S.E G _) (base_plain h)
    · rw [if_neg h]; exact no_E
  · exact s_call0 G
  · exact s_call1 S G
  · exact s_meth S G
  · rename_i elt tg it ifs a scope _
    by_cases h : a = 0
    · rw [if_pos h]; subst h; exact s_lc S G
    · rw [if_neg h]; exact no_E
  · exact s_dict S G
  · rename_i kx elt tg it ifs a scope _
    by_cases h : a = 0
    · rw [if_pos h]; subst h; exact s_dc S G
    · rw [if_neg h]; exact no_E
  · exact no_E
theorem s_T (S : Snd k g F d D c) (G : Good k g F d D ct X Wx) (e : Expr) : PT X e (tT k Wx (stT g F c ct e)) := by
  unfold stT
  split
  · exact c_notT (S.T G _)
  · exact (s_boolT S G _).pt
  · exact (s_cmp G (S.E G _) (S.E G _)).2
  · exact (s_chain G (S.E G _) (S.E G _) (S.E G _)).2
  · exact no_T
  · exact no_T
  · rename_i h1 h2 h3 h4 h5 h6
    refine c_tru G.hK (S.E G _) fun whole => ?_
    cases e with
    | UnaryOp op a p => cases op <;> first | rfl | exact absurd rfl (h1 a p)
    | BoolOp op es p => exact absurd rfl (h2 op es p)
    | Compare a b c p => exact absurd rfl (h5 a b c p)
    | IfExp a b c p => exact absurd rfl (h6 a b c p)
    | _ => rfl
end
end
end Ev
set_option Elab.async false
set_option linter.all false
set_option maxRecDepth 100000
namespace Ev
open PySem L2 PySem.Spec PyProof.Rows
noncomputable section
def sPar2 (i j : Nat) (a : EL) : ES := fun env => trF do let ws ← a env; match ws with
  | [u, v] => pure (.nx ((env.set i (some u)).set j (some v)))
  | _ => M.err
def sPar3 (i j l : Nat) (a : EL) : ES := fun env => trF do let ws ← a env; match ws with
  | [u, v, w] => pure (.nx (((env.set i (some u)).set j (some v)).set l (some w)))
  | _ => M.err
def augF : Operator → Option (Int → Int → Int)
  | .Add => some fun i j => i + j
  | .Sub => some fun i j => i - j
  | _ => none
def augP (f : Int → Int → Int) : W → W → P W
  | .int i, .int j => P.ok (.int (f i j))
  | _, _ => P.fail
/-- x op= e -/
def sAug (f : Int → Int → Int) (i : Nat) (e : EE) : ES := fun env => trF do
  let x ← evV i env
  let y ← e env
  let z ← (augP f x y).up
  pure (.nx (env.set i (some z)))
def clsFP (fl : Nat) : W → P (Nat × W)
  | .ref i => P.ins i fun c fs => P.of ((fs.lookup fl).map fun w => (c, w))
  | _ => P.fail
def setFC (c f : Nat) (o w : W) : P W := match o with
  | .ref i => P.ins i fun c' fs => P.iff (decide (c' = c) && decide (fs.length < 1000)) (P.put i (.ins c (putFW f w fs)) .non)
  | _ => P.fail
/-- o.f op= e -/
def sAugF (f : Int → Int → Int) (fl : Nat) (o e : EE) : ES := fun env => trF do
  let x ← o env
  let v ← (clsFP fl x).up
  let y ← e env
  let z ← (augP f v.2 y).up
  let _ ← (setFC v.1 fl x z).up
  pure (.nx env)
/-- o[i] = e, o a list -/
def setLP (n : Nat) (xs : List W) (w : W) : W → P W
  | .int i => match ixN xs.length i with
    | some j => P.put n (.lst (xs.set j w)) .non
    | none => P.fail
  | _ => P.fail
def setDP (n : Nat) (kvs : List (L2.Key × W)) (w i : W) : P W := match keyW i with
  | some z => P.iff (decide (kvs.length < sizeLine)) (P.put n (.dct (dputW kvs z w)) .non)
  | none => P.fail
def setIP : W → W → W → P W
  | .ref n, i, w => P.obj n fun o => match o with
    | .lst xs => setLP n xs w i
    | .dct kvs => setDP n kvs w i
    | _ => P.fail
  | _, _, _ => P.fail
def sSetI (o i e : EE) : ES := fun env => trF do
  let w ← e env
  let x ← o env
  let y ← i env
  let _ ← (setIP x y w).up
  pure (.nx env)
section
variable {X : Cx} {k : Kx} {Ws : XK}
theorem d_par2 {i j : Nat} {x y : Str} {a b : Expr} {ea : EL} {px py pt pos : Pos} {kt k2 pt2} (hc : X.calm = true) (hN : X.N.Nodup) (hi : X.N[i]? = some x) (hj : X.N[j]? = some y) (hij : i ≠ j)
    (hx : X.env.scope.names.lookup x = some .local) (hy : X.env.scope.names.lookup y = some .local) (ha : PA X [a, b] (tL k (wS Ws) ea))
    (hw : swappedStores [.Tuple [.Name x px, .Name y py] kt pt] (.Tuple [a, b] k2 pt2) X.env = pure (some [x, y])) :
    PS X (.Assign [.Tuple [.Name x px, .Name y py] kt pt] (.Tuple [a, b] k2 pt2) pos) (tS k Ws (sPar2 i j ea)) := by
  refine (ps_par hc hN hi hj hij hx hy ha hw).imp fun D σ H ⟨ρ, env, h, S, t⟩ => ⟨ρ, env, h, S, (Tm.trF S.hr t).bind.mono fun ρ1 h1 H1 ws g1 t1 vs r => ?_⟩
  match ws, t1, r with
  | [u, v], t1, r =>
    obtain ⟨x, y, rfl, r1, r2⟩ := r.two
    exact ⟨x, y, rfl, t1.pure g1.hr _ (EnR.set (EnR.set (g1.en S.hr S.en) r1) r2)⟩
  | [], t1, _ => exact False.elim t1
  | [_], t1, _ => exact False.elim t1
  | _ :: _ :: _ :: _, t1, _ => exact False.elim t1
theorem RWs.three {ρ : List Addr} {H : Hp} {w z y : W} {vs : List V} (r : k.RWs ρ H [w, z, y] vs) : ∃ v u s, vs = [v, u, s] ∧ k.RW ρ H w v ∧ k.RW ρ H z u ∧ k.RW ρ H y s := by
  cases r with
  | cons a b => obtain ⟨u, s, rfl, q, q'⟩ := b.two; exact ⟨_, u, s, rfl, a, q, q'⟩
theorem d_par3 {i j l : Nat} {x y z : Str} {a b c : Expr} {ea : EL} {px py pz pt pos : Pos} {kt k2 pt2} (hc : X.calm = true) (hN : X.N.Nodup) (hi : X.N[i]? = some x) (hj : X.N[j]? = some y) (hl : X.N[l]? = some z) (hij : i ≠ j) (hil : i ≠ l) (hjl : j ≠ l)
    (hx : X.env.scope.names.lookup x = some .local) (hy : X.env.scope.names.lookup y = some .local) (hz : X.env.scope.names.lookup z = some .local) (ha : PA X [a, b, c] (tL k (wS Ws) ea))
    (hw : swappedStores [.Tuple [.Name x px, .Name y py, .Name z pz] kt pt] (.Tuple [a, b, c] k2 pt2) X.env = pure (some [x, y, z])) :
    PS X (.Assign [.Tuple [.Name x px, .Name y py, .Name z pz] kt pt] (.Tuple [a, b, c] k2 pt2) pos) (tS k Ws (sPar3 i j l ea)) := by
  refine (ps_par3 hc hN hi hj hl hij hil hjl hx hy hz ha hw).imp fun D σ H ⟨ρ, env, h, S, t⟩ => ⟨ρ, env, h, S, (Tm.trF S.hr t).bind.mono fun ρ1 h1 H1 ws g1 t1 vs r => ?_⟩
  match ws, t1, r with
  | [u, v, w], t1, r =>
    obtain ⟨x, y, z, rfl, r1, r2, r3⟩ := RWs.three r
    exact ⟨x, y, z, rfl, t1.pure g1.hr _ (EnR.set (EnR.set (EnR.set (g1.en S.hr S.en) r1) r2) r3)⟩
  | [], t1, _ => exact False.elim t1
  | [_], t1, _ => exact False.elim t1
  | [_, _], t1, _ => exact False.elim t1
  | _ :: _ :: _ :: _ :: _, t1, _ => exact False.elim t1
theorem Tp.aug {f : Int → Int → Int} {ρ : List Addr} {h : Hv} {H : Hp} {a b : W} {R : List Addr → Hv → Hp → W → Prop} (hr : k.HR ρ h H) (t : Tp k ρ h H (augP f a b) R) : ∃ i j, a = .int i ∧ b = .int j ∧ R ρ h H (.int (f i j)) := by
  unfold augP at t
  split at t
  · exact ⟨_, _, rfl, rfl, t.ok hr⟩
  · exact t.fail.elim
theorem aug_ip {op : Operator} {f : Int → Int → Int} (e : augF op = some f) : PIp X op (ipI f) := by
  cases op <;> first | (cases e; done) | (cases e; first | exact ip_add | exact ip_sub)
theorem aug_in {op : Operator} {f : Int → Int → Int} (e : augF op = some f) : InOp X op (ipI f) := by
  cases op <;> first | (cases e; done) | (cases e; first | exact in_add | exact in_sub)
theorem d_aug {op : Operator} {f : Int → Int → Int} {i : Nat} {x : Str} {e : Expr} {ea : EE} {pos pos' : Pos} (ef : augF op = some f) (hN : X.N.Nodup) (hi : X.N[i]? = some x) (hx : Loc X.env.scope x) (he : PE X e (tE k (wS Ws) ea)) (hf : X.fn x = true ∨ X.env.scope.names.lookup x = some .local) :
    PS X (.AugAssign (.Name x pos') op e pos) (tS k Ws (sAug f i ea)) := by
  refine (ps_aug hN hi hx he (aug_ip ef) hf).imp fun D σ H ⟨ρ, env, h, S, t⟩ => ?_
  have t1 := (Tm.trF S.hr t).bind
  unfold evV at t1
  split at t1
  · rename_i w ew
    obtain ⟨v, e1, r⟩ := S.en.val i w ew
    have t2 := t1.pure S.hr
    refine ⟨v, e1, ρ, env, h, S, t2.bind.mono fun ρ1 h1 H1 wy g1 t3 vy ry => ?_⟩
    obtain ⟨a, b, rfl, rfl, q⟩ := t3.bind.up.aug g1.hr
    cases r; cases ry
    exact ⟨a, b, rfl, rfl, q.pure g1.hr _ (EnR.set (g1.en S.hr S.en) (.int _))⟩
  · exact False.elim t1
theorem d_augF {op : Operator} {f : Int → Int → Int} {fl : Nat} {x : Str} {o e : Expr} {eo ea : EE} {pos tpos : Pos} (ef : augF op = some f) (C : Clss k) (hK : X.K = k.K) (hx : k.T.nm[fl]? = some x) (ho : PE X o (tE k (wS Ws) eo)) (he : PE X e (tE k (wS Ws) ea)) :
    PS X (.AugAssign (.Attribute o x tpos) op e pos) (tS k Ws (sAugF f fl eo ea)) := by
  refine (ps_fldaug ho he (aug_in ef)).imp fun D σ H ⟨ρ, env, h, S, t⟩ => ⟨ρ, env, h, S, (Tm.trF S.hr t).bind.mono fun ρ1 h1 H1 wo g1 t1 vo ro => ?_⟩
  have en1 := g1.en S.hr S.en
  have t2 := t1.bind.up
  unfold clsFP at t2
  split at t2
  · rename_i i
    obtain ⟨c, fs, e1, t2⟩ := t2.ins
    obtain ⟨p, e2, t2⟩ := t2.of g1.hr
    rw [Option.map_eq_some_iff] at e2
    obtain ⟨w', e2, rfl⟩ := e2
    obtain ⟨hc, a, dx, fs', rfl, ea, q2, q3, q4⟩ := RW.inst g1.hr ro e1
    rcases lookup_fs C.nd hx q3 q4 with ⟨z1, _⟩ | ⟨w2, v2, z1, z2, z3⟩
    · rw [z1] at e2; cases e2
    · rw [z1] at e2; cases e2
      refine ⟨a, _, dx, fs', v2, rfl, q2, by rw [hK]; exact C.cls c hc, by rw [hK]; exact C.noat c hc fl x hx, z2, ρ1, env, h1, ⟨g1.hr, en1⟩, t2.bind.mono fun ρ2 h2 H2 wy g2 t3 vy ry => ?_⟩
      have en2 := g2.en g1.hr en1
      obtain ⟨m, n, rfl, rfl, t4⟩ := t3.bind.up.aug g2.hr
      cases z3; cases ry
      refine ⟨m, n, rfl, rfl, ?_⟩
      have t5 := t4.bind.up
      unfold setFC at t5
      dsimp only at t5
      obtain ⟨c', gs, e3, t5⟩ := t5.ins
      obtain ⟨c1, t5⟩ := t5.iff
      obtain ⟨cc, c2⟩ := Bool.and_eq_true_iff.mp c1
      have cc := of_decide_eq_true cc
      subst cc
      have ro2 := g2.rw g1.hr ro
      obtain ⟨hc', a', dx', gs', ea', ei', p2, p3, p4⟩ := RW.inst g2.hr ro2 e3
      cases ea'
      have hl : gs'.length = gs.length := by simpa using (congrArg List.length p3).symm
      refine ⟨dx', gs', p2, by rw [hl]; exact of_decide_eq_true c2, ?_⟩
      have fr : Fr ρ2 H2 (upd H2 a (.ins (k.ca c') dx' (putF x (.int (f m n)) gs'))) := fun b ob eb hb => by
        have nb : b ≠ a := fun z => hb (by rw [z]; exact List.mem_of_getElem? ei')
        rw [upd_ne nb]; exact eb
      obtain ⟨i1, i2⟩ := put_fs C.nd hx (ρ := ρ2) (H := H2) (RW.int (f m n)) p3 p4
      have g3 := g2.hr.put ei' (u := .ins (k.ca c') dx' (putF x (.int (f m n)) gs')) (o := .ins c' (putFW fl (.int (f m n)) gs)) ⟨hc', dx', _, upd_same, i1, g2.hr.rws fr (fun _ _ e => e) i2⟩
      have t6 := t5 _ _ g3
      exact Tm.pure g3.hr t6 σ (g3.en g2.hr en2)
  · exact t2.fail.elim
/-- o[i] = v by values -/
theorem set_or {t1 t2 : TSet} (h1 : PSet X t1) (h2 : PSet X t2) : PSet X fun o i v H Q => t1 o i v H Q ∨ t2 o i v H Q := fun pins s σ H o i v ov iv u Q I ro ri rv h => h.elim (h1 pins s σ H o i v ov iv u Q I ro ri rv) (h2 pins s σ H o i v ov iv u Q I ro ri rv)
theorem d_setI (hu : X.A.units + 1 < cLine) {o i e : Expr} {eo ei ea : EE} {pos tpos : Pos} (ho : PE X o (tE k (wS Ws) eo)) (hi : PE X i (tE k (wS Ws) ei)) (he : PE X e (tE k (wS Ws) ea))
    (ha : ∀ v, assign (.Subscript o i tpos) X.env v = (do
      let ov ← holding [v] (eval o X.env)
      let iv ← holding [v, ov] (eval i X.env)
      standAt tpos
      holding [v, ov, iv] (setItem ov iv v)
      release [v, ov, iv] []))
    (hs : swapsWithSole [.Subscript o i tpos] e pos.line X.env = pure false) (hw : swappedStores [.Subscript o i tpos] e X.env = pure none) :
    PS X (.Assign [.Subscript o i tpos] e pos) (tS k Ws (sSetI eo ei ea)) := by
  refine (ps_asg he (pg_sub ho hi (set_or set_list (set_dict hu)) ha) hs hw rfl).imp fun D σ H ⟨ρ, env, h, S, t⟩ => ⟨ρ, env, h, S, (Tm.trF S.hr t).bind.mono fun ρ1 h1 H1 w g1 t1 v r => ?_⟩
  have en1 := g1.en S.hr S.en
  refine ⟨ρ1, env, h1, ⟨g1.hr, en1⟩, t1.bind.mono fun ρ2 h2 H2 wo g2 t2 vo ro => ?_⟩
  have en2 := g2.en g1.hr en1
  refine ⟨ρ2, env, h2, ⟨g2.hr, en2⟩, t2.bind.mono fun ρ3 h3 H3 wi g3 t3 vi ri => ?_⟩
  have en3 := g3.en g2.hr en2
  have t4 := t3.bind.up
  have rv := g3.rw g2.hr (g2.rw g1.hr r)
  have ro3 := g3.rw g2.hr ro
  clear ro r
  unfold setIP at t4
  split at t4
  · rename_i n ii _
    obtain ⟨ob, e1, t4⟩ := t4.obj
    cases ob with
    | lst xs =>
      obtain ⟨a, vs, rfl, ea, q2, q3⟩ := RW.list g3.hr ro3 e1
      dsimp only at t4
      cases ri with
      | int ji =>
        unfold setLP at t4
        dsimp only at t4
        cases ej : ixN xs.length ji with
        | none => rw [ej] at t4; exact t4.fail.elim
        | some j =>
          rw [ej] at t4
          refine .inl ⟨a, vs, ji, j, rfl, rfl, q2, by rw [← q3.length]; exact ej, ?_⟩
          have fr : Fr ρ3 H3 (upd H3 a (.lst (vs.set j v))) := fun b ob eb hb => by
            have nb : b ≠ a := fun z => hb (by rw [z]; exact List.mem_of_getElem? ea)
            rw [upd_ne nb]; exact eb
          have g4 := g3.hr.put ea (u := .lst (vs.set j v)) (o := .lst (xs.set j w)) ⟨_, upd_same, g3.hr.rws fr (fun _ _ e => e) (q3.set rv j)⟩
          have t5 := t4 _ _ g4
          exact Tm.pure g4.hr t5 σ (g4.en g3.hr en3)
      | _ => exact False.elim t4
    | dct kvs =>
      obtain ⟨a, kv', rfl, ea, q2, q3, q4⟩ := RW.dict g3.hr ro3 e1
      unfold setDP at t4
      dsimp only at t4
      split at t4
      · rename_i z ez
        obtain ⟨c, t4⟩ := t4.iff
        have hl := of_decide_eq_true c
        have := keyW_ok ri ez
        subst this
        have hl' : kv'.length < sizeLine := by
          have := congrArg List.length q3
          rw [List.length_map, List.length_map] at this
          omega
        refine .inr ⟨a, _, rfl, DPut.k q2 hl', ?_⟩
        have fr : Fr ρ3 H3 (upd H3 a (.dK (putK kv' z v))) := fun b ob eb hb => by
          have nb : b ≠ a := fun z => hb (by rw [z]; exact List.mem_of_getElem? ea)
          rw [upd_ne nb]; exact eb
        obtain ⟨p1, p2⟩ := dput_ok z rv q3 q4
        have g4 := g3.hr.put ea (u := .dK (putK kv' z v)) (o := .dct (dputW kvs z w)) ⟨_, upd_same, p1, g3.hr.rws fr (fun _ _ e => e) p2⟩
        have t5 := t4 _ _ g4
        exact Tm.pure g4.hr t5 σ (g4.en g3.hr en3)
      · exact t4.fail.elim
    | ins _ _ => exact t4.fail.elim
    | xdv _ => exact t4.fail.elim
    | exo _ _ => exact t4.fail.elim
    | pot _ _ => exact t4.fail.elim
  · exact t4.fail.elim
end
end
end Ev
set_option Elab.async false
set_option linter.all false
set_option maxRecDepth 100000
namespace Ev
open PySem L2 PySem.Spec PyProof.Rows
noncomputable section
/-! ### match of a text with constants -/
def matchL : List (List Nat × ES) → List Nat → ES
  | [], _ => fun env => pure (.nx env)
  | (s, b) :: r, x => fun env => if s = x then b env else matchL r x env
def matchW (cs : List (List Nat × ES)) (env : En) : W → M Fl
  | .str x => matchL cs x env
  | _ => M.err
def sMatch (e : EE) (cs : List (List Nat × ES)) : ES := fun env => do let w ← e env; matchW cs env w
section
variable {X : Cx} {k : Kx} {Ws : XK}
/-- the cases one by one -/
inductive Cases (X : Cx) (k : Kx) (Ws : XK) : List MatchCase → List (List Nat × ES) → Prop
  | nil : Cases X k Ws [] []
  | cons {s : Str} {j : Nat} {p p' : Pos} {body : List Stmt} {b : ES} {r : List MatchCase} {cs : List (List Nat × ES)} : PSs X body (tS k Ws b) → Cases X k Ws r cs → Cases X k Ws (⟨.MatchValue (.Constant (.str s) j p) p', none, body⟩ :: r) ((s.cps.toList, b) :: cs)
theorem match_run {pins : List (Addr × Obj)} {σ : L2.St} {D : Ends} : ∀ {cases : List MatchCase} {cs : List (List Nat × ES)}, Cases X k Ws cases cs → ∀ {x : List Nat} {u : Value} {first : Bool} {H : Hp} {s : Shared}, L2.Inv X pins σ H s → RelV (.str ⟨x.toArray⟩) u → tS k Ws (matchL cs x) D σ H →
    wpAny (model X.prog X.w) X.A (matchCases cases X.env u first) (SP X pins D) X.xe s
  | _, _, .nil, x, u, first, H, s, I, r, ⟨ρ, env, h, S, t⟩ => wpAny_matchCases_nil ⟨σ, H, I, t.pure S.hr σ S.en⟩
  | _, _, .cons (s := z) (b := b) (cs := cs) hb hc, x, u, first, H, s, I, r, t => by
    refine wpAny_matchCases_cons (wpAny_matchPattern_Value (Calls.Constant_str ?_))
    have hq : rEq (.str ⟨x.toArray⟩) (.str z) H (fun v H' => v = .bl (decide (z.cps.toList = x)) ∧ H' = H) := by
      refine ⟨rfl, ?_, rfl⟩
      congr 1
      have e : ((V.str ⟨x.toArray⟩ = V.str z) ↔ (z.cps.toList = x)) := by
        constructor
        · intro q; cases q; simp
        · intro q; subst q; cases z; simp
      simp [e]
    refine thn (op_eq pins _ σ H (.str ⟨x.toArray⟩) (.str z) u _ _ (I.tok _) r ⟨_, rfl⟩ hq) fun c s2 ⟨v, H2, I2, rc, ev, eH⟩ => ?_
    subst ev; subst eH
    cases (show c = Value.bool _ from rc)
    refine wpAny_truthy_bool ?_
    obtain ⟨ρ, env, h, S, t⟩ := t
    by_cases hz : z.cps.toList = x
    · rw [decide_eq_true hz]
      dsimp only
      have t' : Tm k (wS Ws) σ ρ h H2 (b env) fun ρ' h' H' fl => FlOk k ρ' h' H' D fl := by
        have e : matchL ((z.cps.toList, b) :: cs) x env = b env := by show (if z.cps.toList = x then _ else _) = _; rw [if_pos hz]
        rw [e] at t; exact t
      exact wpAny_pure (hb.run pins s2 σ H2 D I2 ⟨ρ, env, h, S, t'⟩)
    · rw [decide_eq_false hz]
      dsimp only
      have t' : Tm k (wS Ws) σ ρ h H2 (matchL cs x env) fun ρ' h' H' fl => FlOk k ρ' h' H' D fl := by
        have e : matchL ((z.cps.toList, b) :: cs) x env = matchL cs x env := by show (if z.cps.toList = x then _ else _) = _; rw [if_neg hz]
        rw [e] at t; exact t
      exact match_run hc I2 r ⟨ρ, env, h, S, t'⟩
theorem d_match {subj : Expr} {cases : List MatchCase} {ea : EE} {cs : List (List Nat × ES)} {pos : Pos} (he : PE X subj (tE k (wS Ws) ea)) (hc : Cases X k Ws cases cs) : PS X (.Match subj cases pos) (tS k Ws (sMatch ea cs)) := by
  refine ⟨fun pins s σ H D I ⟨ρ, env, h, S, t⟩ => ?_⟩
  refine wpAny_Match (thn (he.run pins s σ H (fun v H1 => ∃ x, v = .str ⟨x.toArray⟩ ∧ tS k Ws (matchL cs x) D σ H1) I ⟨ρ, env, h, S, t.bind.mono fun ρ1 h1 H1 w g1 t1 v r => ?_⟩) fun u s1 ⟨v, H1, I1, r1, x, ev, q⟩ => ?_)
  · unfold matchW at t1
    split at t1
    · cases r
      exact ⟨_, rfl, ρ1, env, h1, ⟨g1.hr, g1.en S.hr S.en⟩, t1⟩
    · exact False.elim t1
  · subst ev
    exact match_run hc I1 r1 q
end
end
end Ev
set_option Elab.async false
set_option linter.all false
set_option maxRecDepth 100000
namespace Ev
open PySem L2 PySem.Spec PyProof.Rows
noncomputable section

/-! ### statements -/
def notComp : Expr → Bool
  | .ListComp _ _ _ _ => false
  | .SetComp _ _ _ _ => false
  | .DictComp _ _ _ _ _ => false
  | _ => true
def notTup : Expr → Bool
  | .Tuple _ _ _ => false
  | _ => true
def isLoc (ct : Ct) (x : Str) : Bool := match ct.sc.names.lookup x with
  | some .local => true
  | _ => false
/-- the swap of a comprehension's value with the name -/
def swB (ct : Ct) (y : Str) (py pos : Pos) (scope : Scope) : Bool := (if ct.sc.kind.isAnnotationScope then .function else ct.sc.kind) == .function && ct.sc.names.lookup y == some .local && py.line == pos.line && !(scope.names.any fun (n, k) => n == y && (k == .local || k == .cell))
def setE (c : Cp) (ct : Ct) (y : Str) (e : EE) : ES := if locB ct y = true then (match ixS ct.N y with
  | some i => sAsg (gN i) e
  | none => eS) else eS
section
variable {k : Kx} {g : Gt} {F : Nat → List W → M W} {d : Nat} {D : Addr} {ct : Ct} {X : Cx} {Ws : XK} {c : Cp}
theorem isLoc_ok (G : Good k g F d D ct X (wS Ws)) {x : Str} (h : isLoc ct x = true) : X.env.scope.names.lookup x = some .local := by
  unfold isLoc at h
  rw [G.sc]
  split at h
  · assumption
  · cases h
theorem swaps_no {e : Expr} {t : Option Expr} {line : Nat} {env : Env} (h : notComp e = true) : swapsWith e t line env = pure false := by
  cases e <;> first | rfl | cases h
theorem swapsS_no {e t : Expr} {line : Nat} {env : Env} (h : notComp e = true) : swapsWithSole [t] e line env = pure false := swaps_no h
theorem swapped_no {e t : Expr} {env : Env} (h : notTup e = true) : swappedStores [t] e env = pure none := by
  unfold swappedStores
  cases e <;> first | (cases t <;> rfl) | cases h
theorem s_set (G : Good k g F d D ct X (wS Ws)) {y : Str} {py pos : Pos} {e : Expr} {ea : EE} (he : PE X e (tE k (wS Ws) ea)) (hs : swapsWith e (some (.Name y py)) pos.line X.env = pure false) : PS X (.Assign [.Name y py] e pos) (tS k Ws (setE c ct y ea)) := by
  unfold setE
  by_cases hl : locB ct y = true
  · rw [if_pos hl]
    cases hi : ixS ct.N y with
    | none => exact no_S
    | some i =>
      obtain ⟨l1, l2⟩ := locB_ok G hl
      exact d_set G.nd (by rw [G.hN]; exact ixS_ok hi) l1 he hs l2
  · rw [if_neg hl]; exact no_S
theorem sw_eq (G : Good k g F d D ct X (wS Ws)) {elt : Expr} {gs : List Comprehension} {scope : Scope} {pos spos py : Pos} {y : Str} : swapsWith (.ListComp elt gs scope pos) (some (.Name y py)) spos.line X.env = pure (swB ct y py pos scope) := by
  show (pure (X.env.blockKind == .function && X.env.kindOf y == some .local && py.line == pos.line && !(scope.names.any fun (n, k) => n == y && (k == .local || k == .cell))) : Sem Bool) = _
  unfold swB Env.blockKind Env.kindOf
  rw [G.sc]
theorem s_setLc (S : Snd k g F d D c) (G : Good k g F d D ct X (wS Ws)) {y : Str} {py pos spos : Pos} {elt tg it : Expr} {ifs : List Expr} {scope : Scope} (hsw : swB ct y py pos scope = true) :
    PS X (.Assign [.Name y py] (.ListComp elt [⟨tg, it, ifs, 0⟩] scope pos) spos) (tS k Ws (setE c ct y (lcE c ct elt tg it ifs scope))) := by
  have hsw' := sw_eq G (elt := elt) (gs := [⟨tg, it, ifs, 0⟩]) (scope := scope) (pos := pos) (spos := spos) (py := py) (y := y)
  rw [hsw] at hsw'
  have hyl : X.env.scope.names.lookup y = some .local := by
    unfold swB at hsw
    simp only [Bool.and_eq_true, beq_iff_eq] at hsw
    rw [G.sc]; exact hsw.1.1.2
  unfold setE
  by_cases hl : locB ct y = true
  · rw [if_pos hl]
    cases hi : ixS ct.N y with
    | none => exact no_S
    | some i =>
      unfold lcE
      cases hg : c.G (blkCt ct scope) tg with
      | none => exact ⟨fun _ _ _ _ _ _ ⟨_, _, _, _, t⟩ => False.elim t⟩
      | some t =>
        dsimp only
        by_cases hc : (notSet it && (blkC ct.N ct.sc scope (ownL ct.N scope.names) && t.sl.all fun i => ((ownL ct.N scope.names).map (·.2)).contains i)) = true
        · rw [if_pos hc]
          obtain ⟨h1, hc⟩ := Bool.and_eq_true_iff.mp hc
          obtain ⟨h2, h3⟩ := Bool.and_eq_true_iff.mp hc
          refine (ps_setLc G.calm G.nd (by rw [G.hN]; exact ixS_ok hi) hyl hsw' (S.I G tg it) (own := ownL ct.N scope.names) (by rw [G.hN, G.sc]; exact blkOk_by h2) (fun s H C cl fp => S.G (G.blk s H C cl fp) tg t hg) (fun s H C cl fp => s_ifs S (G.blk s H C cl fp) ifs) (fun s H C cl fp => s_jnE (ct := ct) (S.E (G.blk s H C cl fp) elt)) (folded_plain h1)).imp fun D' σ H ⟨ρ, env, h, Sm, tt⟩ => ?_
          refine t_lc (fun i hi => by simpa using List.all_eq_true.mp h3 i hi) ⟨ρ, env, h, Sm, (Tm.trF Sm.hr tt).bind.mono fun ρ1 h1 H1 w g1 t1 v r => ?_⟩
          exact Tm.pure g1.hr t1 _ (EnR.set (g1.en Sm.hr Sm.en) r)
        · rw [if_neg hc]; exact ⟨fun _ _ _ _ _ _ ⟨_, _, _, _, t⟩ => False.elim t⟩
  · rw [if_neg hl]; exact no_S
end
def bkOf (ct : Ct) : ScopeKind := if ct.sc.kind.isAnnotationScope then .function else ct.sc.kind
def isStarred : Expr → Bool
  | .Starred .. => true
  | _ => false
def swName (ct : Ct) (line : Nat) : Expr → Option Str
  | .Name id pos => if ct.sc.names.lookup id == some .local && pos.line == line then some id else none
  | _ => none
/-- swappedStores, its answer -/
def swS (ct : Ct) (ts vs : List Expr) : Option (Option (List Str)) :=
  if (!(ts.length == 2 || ts.length == 3) || vs.length != ts.length || bkOf ct != .function) = true then some none
  else if vs.any isStarred = true then some none
  else if ((ts.filterMap (swName ct ((ts.head?.map (·.pos.line)).getD 0))).length != ts.length || (ts.filterMap (swName ct ((ts.head?.map (·.pos.line)).getD 0))).eraseDups.length != (ts.filterMap (swName ct ((ts.head?.map (·.pos.line)).getD 0))).length) = true then some none
  else if vs.all (foldedForSure 8) = true then some none
  else if vs.all (constantsAlone 8) = true then none
  else some (some (ts.filterMap (swName ct ((ts.head?.map (·.pos.line)).getD 0))))
section
variable {k : Kx} {g : Gt} {F : Nat → List W → M W} {d : Nat} {D : Addr} {ct : Ct} {X : Cx} {Ws : XK} {c : Cp}
theorem sw_par (G : Good k g F d D ct X (wS Ws)) {ts vs : List Expr} {kt k2 : Nat} {pt pt2 : Pos} {o : Option (List Str)} (h : swS ct ts vs = some o) : swappedStores [.Tuple ts kt pt] (.Tuple vs k2 pt2) X.env = pure o := by
  have e1 : X.env.blockKind = bkOf ct := by unfold Env.blockKind bkOf; rw [G.sc]
  have e2 : ∀ line, (fun e : Expr => match e with
    | .Name id pos => if X.env.kindOf id == some .local && pos.line == line then some id else none
    | _ => none) = swName ct line := fun line => by
    funext e
    unfold swName Env.kindOf
    rw [G.sc]
  have e3 : (fun e : Expr => match e with | .Starred .. => true | _ => false) = isStarred := by
    funext e
    cases e <;> rfl
  unfold swappedStores
  unfold swS at h
  show (if (!(ts.length == 2 || ts.length == 3) || vs.length != ts.length || X.env.blockKind != .function) = true then pure none else if vs.any (fun e : Expr => match e with | .Starred .. => true | _ => false) = true then pure none
    else if ((ts.filterMap (fun e : Expr => match e with
    | .Name id pos => if X.env.kindOf id == some .local && pos.line == (ts.head?.map (·.pos.line)).getD 0 then some id else none
    | _ => none)).length != ts.length || (ts.filterMap (fun e : Expr => match e with
    | .Name id pos => if X.env.kindOf id == some .local && pos.line == (ts.head?.map (·.pos.line)).getD 0 then some id else none
    | _ => none)).eraseDups.length != (ts.filterMap (fun e : Expr => match e with
    | .Name id pos => if X.env.kindOf id == some .local && pos.line == (ts.head?.map (·.pos.line)).getD 0 then some id else none
    | _ => none)).length) = true then pure none else if vs.all (foldedForSure 8) = true then pure none else if vs.all (constantsAlone 8) = true then _ else pure (some (ts.filterMap (fun e : Expr => match e with
    | .Name id pos => if X.env.kindOf id == some .local && pos.line == (ts.head?.map (·.pos.line)).getD 0 then some id else none
    | _ => none)))) = (pure o : Sem (Option (List Str)))
  rw [e1, e2, e3]
  by_cases h1 : (!(ts.length == 2 || ts.length == 3) || vs.length != ts.length || bkOf ct != .function) = true
  · rw [if_pos h1] at h ⊢; cases h; rfl
  rw [if_neg h1] at h ⊢
  by_cases h2 : vs.any isStarred = true
  · rw [if_pos h2] at h ⊢; cases h; rfl
  rw [if_neg h2] at h ⊢
  by_cases h3 : ((ts.filterMap (swName ct ((ts.head?.map (·.pos.line)).getD 0))).length != ts.length || (ts.filterMap (swName ct ((ts.head?.map (·.pos.line)).getD 0))).eraseDups.length != (ts.filterMap (swName ct ((ts.head?.map (·.pos.line)).getD 0))).length) = true
  · rw [if_pos h3] at h ⊢; cases h; rfl
  rw [if_neg h3] at h ⊢
  by_cases h4 : vs.all (foldedForSure 8) = true
  · rw [if_pos h4] at h ⊢; cases h; rfl
  rw [if_neg h4] at h ⊢
  by_cases h5 : vs.all (constantsAlone 8) = true
  · rw [if_pos h5] at h; cases h
  rw [if_neg h5] at h ⊢
  cases h; rfl
end
end
end Ev
set_option Elab.async false
set_option linter.all false
set_option maxRecDepth 100000
namespace Ev
open PySem L2 PySem.Spec PyProof.Rows
noncomputable section

def parE (c : Cp) (ct : Ct) (names : List Str) : List Expr → List Expr → ES
  | [.Name x _, .Name y _], [a, b] => if names = [x, y] ∧ isLoc ct x = true ∧ isLoc ct y = true then (match ixS ct.N x, ixS ct.N y with
    | some i, some j => if i ≠ j then sPar2 i j (evArgs (cA c ct [a, b])) else eS
    | _, _ => eS) else eS
  | [.Name x _, .Name y _, .Name z _], [a, b, e] => if names = [x, y, z] ∧ isLoc ct x = true ∧ isLoc ct y = true ∧ isLoc ct z = true then (match ixS ct.N x, ixS ct.N y, ixS ct.N z with
    | some i, some j, some l => if i ≠ j ∧ i ≠ l ∧ j ≠ l then sPar3 i j l (evArgs (cA c ct [a, b, e])) else eS
    | _, _, _ => eS) else eS
  | _, _ => eS
def tupE (c : Cp) (ct : Ct) (t e : Expr) : ES := match c.G ct t with
  | some tg => sAsg tg (c.E ct e)
  | none => eS
def asgE (g : Gt) (c : Cp) (ct : Ct) : Expr → Expr → ES
  | .Name y _, .ListComp elt [⟨tg, it, ifs, a⟩] scope _ => if a = 0 then setE c ct y (lcE c ct elt tg it ifs scope) else eS
  | .Name y _, e => if notComp e = true then setE c ct y (c.E ct e) else eS
  | .Attribute o x _, e => match g.fl.lookup x with
    | some f => sFldW f (c.E ct o) (c.E ct e)
    | none => eS
  | .Subscript o i _, e => if (plainIx i && (notTup e && notComp e)) = true then sSetI (c.E ct o) (c.E ct i) (c.E ct e) else eS
  | .Tuple ts kt pt, .Tuple vs k2 pt2 => match swS ct ts vs with
    | some (some names) => parE c ct names ts vs
    | some none => tupE c ct (.Tuple ts kt pt) (.Tuple vs k2 pt2)
    | none => eS
  | .Tuple ts kt pt, e => if (notTup e && notComp e) = true then tupE c ct (.Tuple ts kt pt) e else eS
  | _, _ => eS
def augE (g : Gt) (c : Cp) (ct : Ct) (op : Operator) (e : Expr) : Expr → ES
  | .Name x _ => match augF op, ixS ct.N x with
    | some f, some i => if locB ct x = true then sAug f i (c.E ct e) else eS
    | _, _ => eS
  | .Attribute o x _ => match augF op, g.fl.lookup x with
    | some f, some fl => sAugF f fl (c.E ct o) (c.E ct e)
    | _, _ => eS
  | _ => eS
def raiseE (g : Gt) (c : Cp) (ct : Ct) (x : Str) (es : List Expr) : ES := if (oddB x || !(glB ct.sc x) || !(es.all notStar)) = true then eS else match g.ex.lookup x with
  | some cc => sRaise cc (evArgs (cA c ct es))
  | none => eS
def casesE (c : Cp) (ct : Ct) : List MatchCase → Option (List (List Nat × ES))
  | [] => some []
  | ⟨.MatchValue (.Constant (.str s) _ _) _, none, body⟩ :: r => (casesE c ct r).map ((s.cps.toList, c.B ct body) :: ·)
  | _ => none
def whileFuel : Nat := 5000
def stS (g : Gt) (c : Cp) (ct : Ct) : Stmt → ES
  | .Pass _ => sPass
  | .Break _ => sBrk
  | .Continue _ => sCnt
  | .Return none _ => sRetN
  | .Return (some e) _ => sRet (c.E ct e)
  | .Expr (.Constant (.str _) _ _) _ => sPass
  | .Expr e _ => if notComp e = true then sExpr (c.E ct e) else eS
  | .Assign [t] e _ => asgE g c ct t e
  | .AugAssign t op e _ => augE g c ct op e t
  | .If t a b _ => sIf (c.T ct t) (c.B ct a) (c.B ct b)
  | .While t a [] _ => whl (c.T ct t) (c.B ct a) whileFuel
  | .For t it a [] _ => if notSet it = true then (match c.G ct t with
    | some tg => sFor (c.I ct t it) tg (jnB ct (c.B ct a))
    | none => eS) else eS
  | .Raise (some (.Call (.Name x _) (e :: es) [] _)) none _ => raiseE g c ct x (e :: es)
  | .Match e cs _ => (match casesE c ct cs with
    | some l => sMatch (c.E ct e) l
    | none => eS)
  | _ => eS
def stB (c : Cp) (ct : Ct) : List Stmt → ES
  | [] => sPass
  | s :: r => sSeq (c.S ct s) (stB c ct r)
def step (g : Gt) (F : Nat → List W → M W) (c : Cp) : Cp := ⟨stE g F c, stT g F c, itE g c, tgE c, stS g c, stB c⟩
def cp (g : Gt) (F : Nat → List W → M W) : Nat → Cp
  | 0 => cp0
  | n + 1 => step g F (cp g F n)
section
variable {k : Kx} {g : Gt} {F : Nat → List W → M W} {d : Nat} {D : Addr} {ct : Ct} {X : Cx} {Ws : XK} {c : Cp}
theorem swaps_attr {e o : Expr} {x : Str} {p : Pos} {line : Nat} {env : Env} : swapsWith e (some (.Attribute o x p)) line env = pure false := by
  cases e <;> rfl
theorem s_par (S : Snd k g F d D c) (G : Good k g F d D ct X (wS Ws)) {ts vs : List Expr} {kt k2 : Nat} {pt pt2 pos : Pos} {names : List Str} (h : swS ct ts vs = some (some names)) : PS X (.Assign [.Tuple ts kt pt] (.Tuple vs k2 pt2) pos) (tS k Ws (parE c ct names ts vs)) := by
  have hw := sw_par G (kt := kt) (k2 := k2) (pt := pt) (pt2 := pt2) h
  unfold parE
  split
  · rename_i x _ y _ a b
    by_cases hc : names = [x, y] ∧ isLoc ct x = true ∧ isLoc ct y = true
    · rw [if_pos hc]
      obtain ⟨rfl, l1, l2⟩ := hc
      split
      · rename_i i j hi hj
        by_cases ne : i ≠ j
        · rw [if_pos ne]
          exact d_par2 G.calm G.nd (by rw [G.hN]; exact ixS_ok hi) (by rw [G.hN]; exact ixS_ok hj) ne (isLoc_ok G l1) (isLoc_ok G l2) (s_A S G [a, b]) hw
        · rw [if_neg ne]; exact no_S
      · exact no_S
    · rw [if_neg hc]; exact no_S
  · rename_i x _ y _ z _ a b e
    by_cases hc : names = [x, y, z] ∧ isLoc ct x = true ∧ isLoc ct y = true ∧ isLoc ct z = true
    · rw [if_pos hc]
      obtain ⟨rfl, l1, l2, l3⟩ := hc
      split
      · rename_i i j l hi hj hl
        by_cases ne : i ≠ j ∧ i ≠ l ∧ j ≠ l
        · rw [if_pos ne]
          exact d_par3 G.calm G.nd (by rw [G.hN]; exact ixS_ok hi) (by rw [G.hN]; exact ixS_ok hj) (by rw [G.hN]; exact ixS_ok hl) ne.1 ne.2.1 ne.2.2 (isLoc_ok G l1) (isLoc_ok G l2) (isLoc_ok G l3) (s_A S G [a, b, e]) hw
        · rw [if_neg ne]; exact no_S
      · exact no_S
    · rw [if_neg hc]; exact no_S
  · exact no_S
theorem s_tup (S : Snd k g F d D c) (G : Good k g F d D ct X (wS Ws)) {ts : List Expr} {e : Expr} {kt : Nat} {pt pos : Pos} (hs : swapsWithSole [.Tuple ts kt pt] e pos.line X.env = pure false) (hw : swappedStores [.Tuple ts kt pt] e X.env = pure none) :
    PS X (.Assign [.Tuple ts kt pt] e pos) (tS k Ws (tupE c ct (.Tuple ts kt pt) e)) := by
  unfold tupE
  cases h : c.G ct (.Tuple ts kt pt) with
  | none => exact no_S
  | some tg => exact d_asg (S.E G e) (S.G G _ tg h) hs hw rfl
theorem s_asg (S : Snd k g F d D c) (G : Good k g F d D ct X (wS Ws)) {t e : Expr} {pos : Pos} : PS X (.Assign [t] e pos) (tS k Ws (asgE g c ct t e)) := by
  unfold asgE
  split
  · rename_i y py elt tg it ifs a scope p
    by_cases h : a = 0
    · rw [if_pos h]
      subst h
      cases hsw : swB ct y py p scope with
      | true => exact s_setLc S G hsw
      | false => exact s_set G (s_lc S G) (by rw [sw_eq G, hsw])
    · rw [if_neg h]; exact no_S
  · rename_i y py _
    by_cases h : notComp e = true
    · rw [if_pos h]; exact s_set G (S.E G e) (swaps_no h)
    · rw [if_neg h]; exact no_S
  · rename_i o x p
    cases hf : g.fl.lookup x with
    | none => exact no_S
    | some f => exact d_fld G.gl.cls G.hK (G.gl.nm x f hf) (S.E G o) (S.E G e) swaps_attr
  · rename_i o i p
    by_cases h : (plainIx i && (notTup e && notComp e)) = true
    · rw [if_pos h]
      obtain ⟨h1, h⟩ := Bool.and_eq_true_iff.mp h
      obtain ⟨h2, h3⟩ := Bool.and_eq_true_iff.mp h
      refine d_setI (by have := G.units; omega) (S.E G o) (S.E G i) (S.E G e) (fun v => ?_) (swapsS_no h3) (swapped_no h2)
      cases i <;> first | rfl | cases h1
    · rw [if_neg h]; exact no_S
  · rename_i ts kt pt vs k2 pt2
    cases h : swS ct ts vs with
    | none => exact no_S
    | some o =>
      cases o with
      | some names => exact s_par S G h
      | none => exact s_tup S G rfl (sw_par G h)
  · rename_i ts kt pt _ _
    by_cases h : (notTup e && notComp e) = true
    · rw [if_pos h]
      obtain ⟨h2, h3⟩ := Bool.and_eq_true_iff.mp h
      exact s_tup S G (swapsS_no h3) (swapped_no h2)
    · rw [if_neg h]; exact no_S
  · exact no_S
theorem s_aug (S : Snd k g F d D c) (G : Good k g F d D ct X (wS Ws)) {t e : Expr} {op : Operator} {pos : Pos} : PS X (.AugAssign t op e pos) (tS k Ws (augE g c ct op e t)) := by
  unfold augE
  split
  · rename_i x _
    split
    · rename_i f i ef ei
      by_cases h : locB ct x = true
      · rw [if_pos h]
        obtain ⟨l1, l2⟩ := locB_ok G h
        exact d_aug ef G.nd (by rw [G.hN]; exact ixS_ok ei) l1 (S.E G e) l2
      · rw [if_neg h]; exact no_S
    · exact no_S
  · split
    · rename_i f fl ef el
      exact d_augF ef G.gl.cls G.hK (G.gl.nm _ fl el) (S.E G _) (S.E G e)
    · exact no_S
  · exact no_S
theorem s_raise (S : Snd k g F d D c) (G : Good k g F d D ct X (wS Ws)) {x : Str} {e : Expr} {es : List Expr} {p pos pos' : Pos} : PS X (.Raise (some (.Call (.Name x p) (e :: es) [] pos)) none pos') (tS k Ws (raiseE g c ct x (e :: es))) := by
  unfold raiseE
  by_cases h : (oddB x || !(glB ct.sc x) || !((e :: es).all notStar)) = true
  · rw [if_pos h]; exact no_S
  · rw [if_neg h]
    simp only [Bool.or_eq_true, not_or, Bool.not_eq_true, Bool.not_eq_false'] at h
    obtain ⟨⟨h1, h2⟩, h3⟩ := h
    obtain ⟨o1, _, _⟩ := oddB_ok h1
    have hs := h3
    rw [List.all_cons, Bool.and_eq_true] at hs
    cases h4 : g.ex.lookup x with
    | none => exact no_S
    | some cc =>
      obtain ⟨m, c1, c2, fI, fd, i1, i2, ok, b⟩ := G.gl.ex x cc h4
      rw [← G.hK] at ok b i1 i2
      exact d_raise G.calm G.tk G.hK G.gl.exs c1 c2 i1 i2 ok G.room b (G.gl' h2) m (s_A S G (e :: es)) o1 (star1 hs.1) (star2 hs.2)
theorem s_cases (S : Snd k g F d D c) (G : Good k g F d D ct X (wS Ws)) : ∀ {cs : List MatchCase} {l : List (List Nat × ES)}, casesE c ct cs = some l → Cases X k Ws cs l
  | cs, l, h => by
    unfold casesE at h
    split at h
    · cases h; exact .nil
    · rw [Option.map_eq_some_iff] at h
      obtain ⟨l', h, rfl⟩ := h
      exact .cons (S.B G _) (s_cases S G h)
    · cases h
theorem s_S (S : Snd k g F d D c) (G : Good k g F d D ct X (wS Ws)) (s : Stmt) : PS X s (tS k Ws (stS g c ct s)) := by
  unfold stS
  split
  · exact d_pass
  · exact d_brk
  · exact d_cnt
  · exact d_retN
  · exact d_ret (S.E G _)
  · exact d_doc
  · rename_i e _ _
    by_cases h : notComp e = true
    · rw [if_pos h]; exact d_expr (S.E G e) (swaps_no h)
    · rw [if_neg h]; exact no_S
  · exact s_asg S G
  · exact s_aug S G
  · exact d_if (S.T G _) (S.B G _) (S.B G _)
  · exact d_while _ G.pas (S.T G _) (S.B G _)
  · rename_i t it a _
    by_cases h : notSet it = true
    · rw [if_pos h]
      cases hg : c.G ct t with
      | none => exact no_S
      | some tg => exact d_for G.pas G.calm (S.I G t it) (S.G G t tg hg) (s_jnB (S.B G a)) (folded_plain h)
    · rw [if_neg h]; exact no_S
  · exact s_raise S G
  · rename_i e cs _
    cases h : casesE c ct cs with
    | none => exact no_S
    | some l => exact d_match (S.E G e) (s_cases S G h)
  · exact no_S
theorem s_B (S : Snd k g F d D c) (G : Good k g F d D ct X (wS Ws)) : ∀ s : List Stmt, PSs X s (tS k Ws (stB c ct s))
  | [] => d_nil
  | s :: r => d_cons (S.S G s) (s_B S G r)
theorem snd_step (S : Snd k g F d D c) : Snd k g F d D (step g F c) :=
  ⟨fun G e => s_E S G e, fun G e => s_T S G e, fun G t e => s_it S G t e, fun G e t h => s_tg S G e t h, fun G s => s_S S G s, fun G s => s_B S G s⟩
theorem snd_cp : ∀ n, Snd k g F d D (cp g F n)
  | 0 => snd0
  | n + 1 => snd_step (snd_cp n)
end
end
end Ev
set_option Elab.async false
set_option linter.all false
set_option maxRecDepth 100000
namespace Ev
open PySem L2 PySem.Spec PyProof.Rows
noncomputable section
/-! ### defs -/
structure FnB where
  N : List Str
  sc : Scope
  body : List Stmt
  jn : Option Nat
def flW : Fl → M W
  | .rt w => pure w
  | .nx _ => pure .non
  | _ => M.err
def runF (es : ES) (n : Nat) (ws : List W) : M W := trW do
  let fl ← es (ws.map some ++ List.replicate (n - ws.length) none)
  flW fl
/-- the compiled body -/
def esB (g : Gt) (F : Nat → List W → M W) (b : FnB) : ES := (cp g F 60).B ⟨b.N, b.sc, fun _ => true, b.jn⟩ b.body
/-- the defs by depth; F0: what stands at depth 0, and at each depth for those of ov -/
def fnT (g : Gt) (bs : Nat → Option FnB) (F0 : Nat → List W → M W) (ov : Nat → Bool) : Nat → Nat → List W → M W
  | 0, j => F0 j
  | d + 1, j => match ov j with
    | true => F0 j
    | false => match bs j with
      | some b => runF (esB g (fnT g bs F0 ov d) b) b.N.length
      | none => fun _ => M.err
section
variable {k : Kx} {g : Gt} {bs : Nat → Option FnB} {D : Addr} {P : Program} {w : World} {mg : Str → Option Value} {base : Heap} {f : Addr} {fd : FuncData} {ps : List Str}
/-- what fails promises all -/
theorem fn_err {l n : Nat} (hn : n = ps.length) : FnOk P w k.K mg base (CX P w) l f fd ps (spM k n fun _ => M.err) :=
  ⟨fun vs H Q E ⟨h, _⟩ => h.trans hn, fun A outer s H args us vs Q E hr e0 hb r ⟨_, ρ, h, ws, _, _, t⟩ => False.elim t⟩
theorem start_en {N : List Str} {ρ : List Addr} {H : Hp} {ws : List W} {vs : List V} (r : k.RWs ρ H ws vs) (hl : vs.length ≤ N.length) : k.EnR ρ H (ws.map some ++ List.replicate (N.length - ws.length) none) (L2.start N vs) := by
  have e := r.length
  refine ⟨?_, fun i w ew => ?_⟩
  · unfold L2.start
    simp only [List.length_append, List.length_map, List.length_replicate, e]
  · unfold L2.start
    by_cases hi : i < ws.length
    · rw [List.getElem?_append_left (by simpa using hi), List.getElem?_map, Option.map_eq_some_iff] at ew
      obtain ⟨w', e1, e2⟩ := ew
      cases e2
      obtain ⟨v, e3, q⟩ := r.get e1
      exact ⟨v, by rw [List.getElem?_append_left (by rw [List.length_map, ← e]; exact hi), List.getElem?_map, e3]; rfl, q⟩
    · rw [List.getElem?_append_right (by simpa using hi), List.getElem?_replicate] at ew
      split at ew <;> cases ew
theorem fn_ok {F0 : Nat → List W → M W} {ov : Nat → Bool} {d l j : Nat} {b : FnB} {x qual : Str} {params : Arguments} {dvs : List V} {kws : List (Str × V)} (ho : ov j = false) (hj : bs j = some b) (F : FunD k.K x qual params b.body b.sc dvs kws f fd) (S : FnScope b.N ps b.sc) (hl : 19 ≤ l)
    (G : Glob k g (fnT g bs F0 ov d) l D P w mg base) : FnOk P w k.K mg base (CX P w) (l + 2) f fd ps (spM k ps.length (fnT g bs F0 ov (d + 1) j)) := by
  refine F.ok S (fun vs H Q E ⟨h, _⟩ => h) fun cdv A outer s H vs Q E hr ⟨hlen, ρ, h, ws, hR, rs, t⟩ => ?_
  have e : fnT g bs F0 ov (d + 1) j = runF (esB g (fnT g bs F0 ov d) b) b.N.length := by
    show (match ov j with
      | true => F0 j
      | false => match bs j with
        | some b => runF (esB g (fnT g bs F0 ov d) b) b.N.length
        | none => fun _ => M.err) = _
    rw [ho, hj]
  rw [e] at t
  let X : Cx := cxOf (CX P w) P w k.K mg base b.N qual b.sc f cdv A outer s H E
  have GX : Good k g (fnT g bs F0 ov d) l D ⟨b.N, b.sc, fun _ => true, b.jn⟩ X (wS E) := {
    hK := rfl
    hN := rfl
    nd := S.nd
    sc := rfl
    fn := rfl
    calm := rfl
    pas := passes_of rfl
    tk := takes_of rfl rfl rfl rfl
    room := hr
    room20 := hr.mono (by omega)
    gl := G }
  have hp : ps.length ≤ b.N.length := by have := congrArg List.length S.pre; rw [List.length_take] at this; omega
  refine ⟨_, (snd_cp (k := k) (g := g) (F := fnT g bs F0 ov d) (d := l) (D := D) 60).B GX b.body, ρ, _, h, ⟨hR, start_en rs (by rw [hlen]; exact hp)⟩, ?_⟩
  have t1 := (Tm.trW (R := fun H' v => Q v H') hR t).bind
  refine Tm.mono (Tm.sl (Ws := E) (σ := []) t1) fun ρ1 h1 H1 fl g1 t2 => ?_
  cases fl with
  | nx env => exact fun σ' r => t2.pure g1.hr _ .non
  | rt w => exact fun v r => t2.pure g1.hr v r
  | bk env => exact False.elim t2
  | ct env => exact False.elim t2
end
end
end Ev
set_option Elab.async false
set_option linter.all false
set_option maxRecDepth 100000
namespace Ev
open PySem L2 PySem.Spec PyProof.Rows
noncomputable section

/-! ### binding, of any def with plain parameters -/
def fillD (ps : List Str) (its : List Value) (slots : List (Str × Value)) : List (Str × Value) := ((ps.drop (ps.length - its.length)).zip its).foldl (fun s q => if (s.lookup q.1).isNone = true then s ++ [q] else s) slots
/-- keywords that fit -/
def kwOk (ps : List Str) : List (Str × Value) → List (Str × Value) → Prop
  | _, [] => True
  | slots, q :: kw => ps.contains q.1 = true ∧ (slots.lookup q.1).isSome = false ∧ kwOk ps (slots ++ [q]) kw
abbrev Sl2 : Type := List (Str × Value) × List (Str × Value)
theorem for_kw (ps : List Str) (f : Str × Value → Sl2 → Sem (ForInStep Sl2))
    (hf : ∀ q (r : Sl2), ps.contains q.1 = true → (r.1.lookup q.1).isSome = false → f q r = pure (.yield (r.1 ++ [q], r.2))) : ∀ (kw : List (Str × Value)) (e slots : List (Str × Value)), kwOk ps slots kw → forIn kw ((slots, e) : Sl2) f = pure (slots ++ kw, e)
  | [], e, slots, _ => by simp
  | q :: kw, e, slots, h => by
    obtain ⟨h1, h2, h3⟩ := h
    rw [List.forIn_cons, hf q _ h1 h2, pure_bind]
    dsimp only
    rw [for_kw ps f hf kw _ _ h3, List.append_assoc]
    rfl
theorem for_fill (f : Str × Value → List (Str × Value) → Sem (ForInStep (List (Str × Value))))
    (hf : ∀ q (r : List (Str × Value)), f q r = pure (.yield (if (r.lookup q.1).isNone = true then r ++ [q] else r))) : ∀ (l : List (Str × Value)) (r : List (Str × Value)), forIn l r f = pure (l.foldl (fun s q => if (s.lookup q.1).isNone = true then s ++ [q] else s) r)
  | [], r => by simp
  | q :: l, r => by
    rw [List.forIn_cons, hf q r, pure_bind]
    dsimp only
    rw [for_fill f hf l]
    rfl
theorem bind_gen {M : Model} {h : Heap} {fd : FuncData} {ps : List Str} {us its : List Value} {kw : List (Str × Value)} {o : Option (Array Value)} (hd : PySem.W.Looks M h (seqItems? fd.defaults) o) (ho : (o.getD #[]).toList = its) (hs : simpleArgs fd.params ps = true) (hk : kwOk ps (ps.zip us) kw) (hu : us.length ≤ ps.length) (hi : its.length ≤ ps.length)
    (hm : ((ps.take (ps.length - its.length)).all fun n => ((ps.zip us ++ kw).lookup n).isSome) = true) :
    PySem.W.Looks M h (bindArgs fd ⟨us, kw⟩) (ps.filterMap fun n => ((fillD ps its (ps.zip us ++ kw)).lookup n).map (n, ·)) := by
  unfold simpleArgs at hs
  simp only [Bool.and_eq_true, List.isEmpty_iff, Option.isNone_iff_eq_none, decide_eq_true_eq] at hs
  obtain ⟨h1, h2, h3, h4, h5⟩ := hs
  unfold bindArgs
  simp only [h1, h2, h3, h4, h5, List.map_nil, List.nil_append, List.append_nil]
  rw [for_kw ps _ ?_ kw [] (ps.zip us) hk, pure_bind]
  · refine hd.andThen ?_
    dsimp only
    rw [ho]
    rw [if_neg (by simp; omega)]
    have e1 : its.drop (its.length - ps.length) = its := by rw [Nat.sub_eq_zero_of_le hi]; rfl
    rw [e1]
    rw [if_neg (by
      simp only [Bool.not_eq_true, Bool.not_eq_false', List.isEmpty_iff, List.filter_eq_nil_iff]
      intro n hn
      have := List.all_eq_true.mp hm n hn
      cases q : (ps.zip us ++ kw).lookup n with
      | none => rw [q] at this; cases this
      | some v => simp)]
    rw [for_fill _ ?_, pure_bind]
    · rw [List.forIn_nil, pure_bind]
      exact PySem.W.Looks.of_pure rfl
    · intro q r
      split <;> rfl
  · intro q r a b
    rw [if_pos (by simp only [a, Bool.true_or]), if_neg (by rw [b]; exact Bool.false_ne_true)]
theorem fold_skip : ∀ (l slots : List (Str × Value)), (∀ q ∈ l, (slots.lookup q.1).isSome = true) → l.foldl (fun s q => if (s.lookup q.1).isNone = true then s ++ [q] else s) slots = slots
  | [], _, _ => rfl
  | q :: l, slots, h => by
    rw [List.foldl_cons, if_neg]
    · exact fold_skip l slots fun z hz => h z (List.mem_cons_of_mem _ hz)
    · have := h q List.mem_cons_self
      cases e : slots.lookup q.1 with
      | none => rw [e] at this; cases this
      | some v => simp
theorem lookup_app {n : Str} {b : List (Str × Value)} : ∀ {a : List (Str × Value)}, (a ++ b).lookup n = (a.lookup n).or (b.lookup n)
  | [] => rfl
  | (x, v) :: a => by
    rw [List.cons_append, List.lookup_cons, List.lookup_cons]
    cases h : n == x with
    | true => rfl
    | false => exact lookup_app
theorem fold_add : ∀ (l slots : List (Str × Value)), (l.map (·.1)).Nodup → (∀ q ∈ l, slots.lookup q.1 = none) → l.foldl (fun s q => if (s.lookup q.1).isNone = true then s ++ [q] else s) slots = slots ++ l
  | [], _, _, _ => by simp
  | q :: l, slots, nd, h => by
    rw [List.foldl_cons, if_pos (by rw [h q List.mem_cons_self]; rfl)]
    rw [List.map_cons, List.nodup_cons] at nd
    rw [fold_add l _ nd.2 fun z hz => ?_, List.append_assoc]
    · rfl
    · rw [lookup_app, h z (List.mem_cons_of_mem _ hz)]
      have ne : (z.1 == q.1) = false := by
        have : z.1 ≠ q.1 := fun e => nd.1 (by rw [← e]; exact List.mem_map_of_mem hz)
        simpa using this
      show (List.lookup z.1 [q]) = none
      rw [show [q] = [(q.1, q.2)] from rfl, List.lookup_cons, ne]
      rfl
theorem zip_none {n : Str} : ∀ {ps : List Str} {us : List Value}, n ∉ ps → (ps.zip us).lookup n = none
  | [], us, _ => by simp
  | _ :: _, [], _ => by simp
  | p :: ps, u :: us, h => by
    rw [List.zip_cons_cons, List.lookup_cons]
    have : (n == p) = false := by
      have : n ≠ p := fun e => h (by rw [e]; exact List.mem_cons_self)
      simpa using this
    rw [this]
    exact zip_none fun z => h (List.mem_cons_of_mem _ z)
theorem zip_some {n : Str} : ∀ {ps : List Str} {us : List Value}, n ∈ ps.take us.length → ((ps.zip us).lookup n).isSome = true
  | [], us, h => by simp at h
  | _ :: _, [], h => by simp at h
  | p :: ps, u :: us, h => by
    rw [List.zip_cons_cons, List.lookup_cons]
    cases e : n == p with
    | true => rfl
    | false =>
      refine zip_some ?_
      rw [List.length_cons, List.take_succ_cons, List.mem_cons] at h
      rcases h with h | h
      · rw [h] at e; simp at e
      · exact h
theorem zip_all : ∀ (ps : List Str) (vs : List Value), ps.Nodup → ps.length = vs.length → (ps.filterMap fun n => ((ps.zip vs).lookup n).map (n, ·)) = ps.zip vs := by
  have key : ∀ (ps : List Str) (vs : List Value) (f : Str → Option Value), ps.Nodup → ps.length = vs.length → (∀ q ∈ ps.zip vs, f q.1 = some q.2) → (ps.filterMap fun n => (f n).map (n, ·)) = ps.zip vs := by
    intro ps
    induction ps with
    | nil => intro vs f _ _ _; simp
    | cons p ps ih =>
      intro vs f nd hl hf
      cases vs with
      | nil => cases hl
      | cons v vs =>
        rw [List.nodup_cons] at nd
        rw [List.zip_cons_cons] at hf ⊢
        have e := hf (p, v) List.mem_cons_self
        dsimp only at e
        rw [List.filterMap_cons, e]
        dsimp only [Option.map_some]
        rw [ih vs f nd.2 (by simpa using hl) fun q hq => hf q (List.mem_cons_of_mem _ hq)]
  intro ps vs nd hl
  refine key ps vs _ nd hl ?_
  clear key
  induction ps generalizing vs with
  | nil => intro q hq; simp at hq
  | cons p ps ih =>
    cases vs with
    | nil => cases hl
    | cons v vs =>
      rw [List.nodup_cons] at nd
      intro q hq
      rw [List.zip_cons_cons] at hq ⊢
      rw [List.lookup_cons]
      rcases List.mem_cons.mp hq with rfl | hq
      · simp
      · have hm : q.1 ∈ ps := (List.of_mem_zip hq).1
        have ne : (q.1 == p) = false := by
          have : q.1 ≠ p := fun e => nd.1 (by rw [← e]; exact hm)
          simpa using this
        rw [ne]
        exact ih vs nd.2 (by simpa using hl) q hq
theorem fill_pos {ps : List Str} {us its : List Value} (nd : ps.Nodup) (hu : us.length ≤ ps.length) (hi : its.length ≤ ps.length) (hm : ps.length - us.length ≤ its.length) :
    (ps.filterMap fun n => ((fillD ps its (ps.zip us)).lookup n).map (n, ·)) = ps.zip (us ++ its.drop (its.length - (ps.length - us.length))) := by
  have e : fillD ps its (ps.zip us) = ps.zip (us ++ its.drop (its.length - (ps.length - us.length))) := by
    unfold fillD
    obtain ⟨n1, hn1⟩ : ∃ n1, n1 = us.length - (ps.length - its.length) := ⟨_, rfl⟩
    have e1 : its = its.take n1 ++ its.drop n1 := (List.take_append_drop _ _).symm
    have e2 : ps.drop (ps.length - its.length) = (ps.drop (ps.length - its.length)).take n1 ++ ps.drop us.length := by
      have : ps.drop us.length = (ps.drop (ps.length - its.length)).drop n1 := by rw [List.drop_drop]; congr 1; omega
      rw [this, List.take_append_drop]
    have e3 : its.length - (ps.length - us.length) = n1 := by omega
    have l1 : ((ps.drop (ps.length - its.length)).take n1).length = (its.take n1).length := by
      rw [List.length_take, List.length_take, List.length_drop]; omega
    have e4 : (ps.drop (ps.length - its.length)).zip its = ((ps.drop (ps.length - its.length)).take n1).zip (its.take n1) ++ (ps.drop us.length).zip (its.drop n1) := by
      conv => lhs; rw [e2]; arg 2; rw [e1]
      exact List.zip_append l1
    have ez : ps.zip us = (ps.take us.length).zip us := by
      conv => lhs; rw [← List.take_append_drop us.length ps]
      have : us = us ++ ([] : List Value) := by simp
      conv => lhs; arg 2; rw [this]
      rw [List.zip_append (by rw [List.length_take]; omega)]
      simp
    have f1 := fold_skip (((ps.drop (ps.length - its.length)).take n1).zip (its.take n1)) (ps.zip us) fun q hq => by
      have hq1 := (List.of_mem_zip hq).1
      refine zip_some ?_
      have : (ps.drop (ps.length - its.length)).take n1 = (ps.take us.length).drop (ps.length - its.length) := by
        rw [List.drop_take]; congr 1
      rw [this] at hq1
      exact List.mem_of_mem_drop hq1
    have f2 := fold_add ((ps.drop us.length).zip (its.drop n1)) (ps.zip us) (by
      have : ((ps.drop us.length).zip (its.drop n1)).map (·.1) = (ps.drop us.length) := by
        rw [List.map_fst_zip]
        rw [List.length_drop, List.length_drop]; omega
      rw [this]
      exact nd.sublist (List.drop_sublist _ _)) fun q hq => by
      have hq1 := (List.of_mem_zip hq).1
      rw [ez]
      refine zip_none fun z => ?_
      rw [← List.take_append_drop us.length ps, List.nodup_append] at nd
      exact nd.2.2 _ z _ hq1 rfl
    rw [e4, List.foldl_append, f1, f2, e3, ez]
    have : ps.zip (us ++ its.drop n1) = (ps.take us.length ++ ps.drop us.length).zip (us ++ its.drop n1) := by rw [List.take_append_drop]
    rw [this, List.zip_append (by rw [List.length_take]; omega)]
  rw [e]
  refine zip_all ps _ nd ?_
  rw [List.length_append, List.length_drop]; omega
end
end Ev
set_option Elab.async false
set_option linter.all false
set_option maxRecDepth 100000
namespace Ev
open PySem L2 PySem.Spec PyProof.Rows
noncomputable section

/-! ### an exception's class, by a look at the written part -/
theorem oexB_ok {K : PySem.W.Frag} {C : Addr} (h : oexB K C = true) : ∃ nm q N bs bm sn sub ab col dd k0 k1 k2 k3 k5, K.lookup C = some (excClassObj nm q C N bs bm true sn sub ab col dd k0 k1 k2 k3 k5 "ValueError.__new__") ∧ PySem.HandSPX.refsVE bm = true := by
  unfold oexB at h
  split at h
  · rename_i t dd cd sl ho
    obtain ⟨h1, h⟩ := ba h
    obtain ⟨h2, h⟩ := ba h
    obtain ⟨h3, h⟩ := ba h
    split at h
    · rename_i C' bm k0 k1 k2 k3 n k5 hm hs
      obtain ⟨h4, h⟩ := ba h
      obtain ⟨h5, h6⟩ := ba h
      have e1 := of_decide_eq_true h1
      have e4 := of_decide_eq_true h4
      have e5 := of_decide_eq_true h5
      subst e1 e4 e5
      obtain ⟨nm, bs, mro, ns, qn, hd, sn, sub, ab, col, del⟩ := cd
      dsimp only at hm h2 h3
      have h3' : del = false := by simpa using h3
      subst hm h2 h3'
      have hsl : sl = #[k0, k1, k2, k3, some (.builtin "ValueError.__new__"), k5] := by
        obtain ⟨l⟩ := sl
        simp only at hs
        rw [hs]
      subst hsl
      exact ⟨nm, qn, ns, bs, bm, sn, sub, ab, col, dd, k0, k1, k2, k3, k5, ho, h6⟩
    · cases h
  · cases h
theorem uexB_ok {K : PySem.W.Frag} {D C : Addr} (h : uexB K D C = true) : UexC K D C := by
  obtain ⟨h1, h⟩ := ba h
  obtain ⟨h2, h⟩ := ba h
  obtain ⟨h3, h⟩ := ba h
  obtain ⟨h4, h⟩ := ba h
  obtain ⟨h5, h⟩ := ba h
  obtain ⟨h6, h⟩ := ba h
  obtain ⟨h7, h⟩ := ba h
  obtain ⟨h8, h9⟩ := ba h
  exact ⟨⟨oexB_ok h1, of_decide_eq_true h2, of_decide_eq_true h3, of_decide_eq_true h4, h5⟩, of_decide_eq_true h6, of_decide_eq_true h7, of_decide_eq_true h8, of_decide_eq_true h9⟩
theorem excB_ok {K : PySem.W.Frag} {C : Addr} (h : excB K C = true) : ExcC K C ∧ XfC K C ∧ PySem.W.findIn K (.ref C) "__eq__" = some (some (.builtin "object.__eq__")) := by
  obtain ⟨h1, h⟩ := ba h
  obtain ⟨h2, h⟩ := ba h
  obtain ⟨h3, h⟩ := ba h
  obtain ⟨h4, h⟩ := ba h
  obtain ⟨h5, h⟩ := ba h
  obtain ⟨h6, h⟩ := ba h
  obtain ⟨h7, h⟩ := ba h
  obtain ⟨h8, h9⟩ := ba h
  exact ⟨⟨of_decide_eq_true h1, of_decide_eq_true h2, of_decide_eq_true h3, h4, of_decide_eq_true h5, of_decide_eq_true h6, of_decide_eq_true h7, of_decide_eq_true h8⟩, ⟨of_decide_eq_true h1, of_decide_eq_true h2, of_decide_eq_true h3, h4⟩, of_decide_eq_true h9⟩
/-! ### the exceptions' __init__ -/
theorem initBodyB_ok {l : List Stmt} (h : initBodyB l = true) : ∃ p0 p1 p2 p3 p4 p5 p6 p7 p8 p9, l = initBody p0 p1 p2 p3 p4 p5 p6 p7 p8 p9 ∧ (p2.endLine == p4.line) = true := by
  unfold initBodyB at h
  split at h
  · rename_i a p0 p1 b p2 c p3 p4 p5 d p6 e p7 f p8 p9
    obtain ⟨h1, h⟩ := ba h
    obtain ⟨h2, h⟩ := ba h
    obtain ⟨h3, h⟩ := ba h
    obtain ⟨h4, h⟩ := ba h
    obtain ⟨h5, h⟩ := ba h
    obtain ⟨h6, h7⟩ := ba h
    have e1 := of_decide_eq_true h1
    have e2 := of_decide_eq_true h2
    have e3 := of_decide_eq_true h3
    have e4 := of_decide_eq_true h4
    have e5 := of_decide_eq_true h5
    have e6 := of_decide_eq_true h6
    subst e1 e2 e3 e4 e5 e6
    exact ⟨p0, p1, p2, p3, p4, p5, p6, p7, p8, p9, rfl, h7⟩
  · cases h
theorem bodyB_ok {b : FuncBody} (h : bodyB b = true) : ∃ p0 p1 p2 p3 p4 p5 p6 p7 p8 p9, b = .stmts (initBody p0 p1 p2 p3 p4 p5 p6 p7 p8 p9) ∧ (p2.endLine == p4.line) = true := by
  unfold bodyB at h
  split at h
  · obtain ⟨p0, p1, p2, p3, p4, p5, p6, p7, p8, p9, e, q⟩ := initBodyB_ok h
    exact ⟨p0, p1, p2, p3, p4, p5, p6, p7, p8, p9, by rw [e], q⟩
  · cases h
theorem noneB_ok {v : Value} (h : noneB v = true) : v = .none := by
  cases v <;> first | rfl | cases h
theorem closB_ok {K : PySem.W.Frag} {D : Addr} {l : List (Str × Addr)} (h : closB K D l = true) : ∃ cc cl cld csl, l = [(("__class__" : Str), cc)] ∧ K.lookup cc = some ⟨cl, cld, .cell (some (.ref D)), csl⟩ := by
  unfold closB at h
  split at h
  · obtain ⟨h1, h2⟩ := ba h
    split at h2
    · rename_i hcell
      have e1 := of_decide_eq_true h1
      have e2 := of_decide_eq_true h2
      subst e1 e2
      exact ⟨_, _, _, _, rfl, hcell⟩
    · cases h2
  · cases h
theorem codeB_ok {P : Program} {K : PySem.W.Frag} {q : Str} {v : Value} (h : codeB P K q v = true) : ∃ c ccl cdd vs ccs file tf, v = .ref c ∧ PySem.W.codeIn K (.ref c) q = true ∧ K.lookup c = some ⟨ccl, cdd, .fields vs, ccs⟩ ∧ vs[2]? = some (.str file tf) ∧ ((P.main.file : Str) == file) = true := by
  unfold codeB at h
  split at h
  · obtain ⟨h1, h2⟩ := ba h
    split at h2
    · rename_i hc
      split at h2
      · rename_i hv
        exact ⟨_, _, _, _, _, _, _, rfl, h1, hc, hv, h2⟩
      · cases h2
    · cases h2
  · cases h
theorem fdB_ok {K : PySem.W.Frag} {f : Addr} {t : FuncData → Bool} (h : fdB K f t = true) : ∃ oc od fd osl, K.lookup f = some ⟨oc, od, .func fd, osl⟩ ∧ t fd = true := by
  unfold fdB at h
  split at h
  · rename_i lk
    exact ⟨_, _, _, _, lk, h⟩
  · cases h
section
variable {P : Program} {w : World} {K : PySem.W.Frag} {mg : Str → Option Value} {base h : Heap} {D fI : Addr}
theorem looks_none {M : Model} {h : Heap} : PySem.W.Looks M h (seqItems? .none) none := PySem.W.Looks.of_pure rfl
theorem initB_ok (X : K.In h) (G : h.Ns mainGlobals mg) (hb : initB P K D fI = true) : PySem.W.typeIn K (.ref fI) = some (.type "function") ∧ ∃ fd, (∀ CX k, FnOk P w K mg base CX k fI fd [("self" : Str), "value"] (spInit K D)) ∧ L2.Binds K fd [("self" : Str), "value"] [] := by
  unfold initB at hb
  obtain ⟨h1, hb⟩ := ba hb
  obtain ⟨h2, hb⟩ := ba hb
  obtain ⟨h3, hb⟩ := ba hb
  obtain ⟨h4, hb⟩ := ba hb
  obtain ⟨h5, hb⟩ := ba hb
  refine ⟨of_decide_eq_true h5, ?_⟩
  obtain ⟨oc, od, fd, osl, lk, hb⟩ := fdB_ok hb
  refine ⟨fd, ?_⟩
  obtain ⟨n1, n2, n3, n4, n5, n6, n7, n8, n9, n10, n11, n12, n13, n14, n15⟩ := fd
  unfold initFdB at hb
  dsimp only at hb
  obtain ⟨g1, hb⟩ := ba hb
  obtain ⟨g2, hb⟩ := ba hb
  obtain ⟨g3, hb⟩ := ba hb
  obtain ⟨g4, hb⟩ := ba hb
  obtain ⟨g5, hb⟩ := ba hb
  obtain ⟨g6, hb⟩ := ba hb
  obtain ⟨g7, hb⟩ := ba hb
  obtain ⟨g8, hb⟩ := ba hb
  have e1 := of_decide_eq_true g1
  have e2 := of_decide_eq_true g2
  obtain ⟨p0, p1, p2, p3, p4, p5, p6, p7, p8, p9, e3, hl⟩ := bodyB_ok g3
  have e7 := noneB_ok g7
  obtain ⟨cc, cl, cld, csl, e8, hcell⟩ := closB_ok g8
  obtain ⟨c, ccl, cdd, vs, ccs, file, tf, e9, hb1, hcode, hvs, hb2⟩ := codeB_ok hb
  subst e1 e2 e3 e7 e8 e9
  cases hD : PySem.W.clsIn K D with
  | none => rw [hD] at h4; cases h4
  | some cdD =>
    unfold scopeInitB at g4
    obtain ⟨s1, g4⟩ := ba g4
    obtain ⟨s2, g4⟩ := ba g4
    obtain ⟨s3, g4⟩ := ba g4
    obtain ⟨s4, g4⟩ := ba g4
    obtain ⟨s5, g4⟩ := ba g4
    obtain ⟨s6, g4⟩ := ba g4
    obtain ⟨s7, s8⟩ := ba g4
    unfold headB at g5
    split at g5
    · rename_i ar har
      refine ⟨fun CX k => init_ok (ar := ar) lk hb1 hcode hvs hb2 hcell hD (PySem.W.mg_none_of X G (of_decide_eq_true h1)) (by simpa using h2) (of_decide_eq_true h3) hl har (of_decide_eq_true g5) (of_decide_eq_true s1) (by simpa using s2) (by simpa using s3) (of_decide_eq_true s4) (of_decide_eq_true s5) (of_decide_eq_true s6) (of_decide_eq_true s7) (fun x hx => of_decide_eq_true (List.all_eq_true.mp s8 x hx)), ?_⟩
      intro s us Xs hlen
      refine BindsTo.of_looks fun M => ?_
      have hu : us.length = 2 := by simpa using hlen
      have e : (([("self" : Str), "value"] : List Str).filterMap fun n => ((fillD [("self" : Str), "value"] [] (([("self" : Str), "value"] : List Str).zip us)).lookup n).map (n, ·)) = ([("self" : Str), "value"] : List Str).zip (us ++ []) := by
        have z := fill_pos (ps := [("self" : Str), "value"]) (us := us) (its := []) (by decide) (by rw [hu]; decide) (by decide) (by rw [hu]; decide)
        rw [List.drop_nil] at z
        exact z
      rw [← e]
      have q := bind_gen (M := M) (h := s.heap) (ps := [("self" : Str), "value"]) (us := us) (its := []) (kw := []) (o := none) (fd := PySem.W.fnX n1 n2 n3 (initBody p0 p1 p2 p3 p4 p5 p6 p7 p8 p9) n5 [("__class__", cc)] .none n9 n10 n11 n12 (.ref c) n14) looks_none rfl g6 trivial (by rw [hu]; decide) (by decide) (by
        rw [List.all_eq_true]
        intro n hn
        rw [List.append_nil]
        refine zip_some ?_
        rw [hu]
        exact hn)
      rw [List.append_nil] at q
      exact q
    · cases g5
end
end
end Ev
set_option Elab.async false
set_option linter.all false
set_option maxRecDepth 100000
namespace Ev
open PySem L2 PySem.Spec PyProof.Rows
noncomputable section

/-! ### a program's top, by tables -/
def dvW : He.Dv → W
  | .bl b => .bl b
  | .int i => .int i
  | .str x => .str x.cps.toList
  | _ => .non
def coW : CoV → W
  | .int i => .int i
  | .str z => .str z.cps.toList
  | .tup vs => .tup (vs.map dvW)
def Pg.fi (p : Pg) (j : Nat) : FnI := match p.fn[j]? with
  | some d => ⟨j, (par d.1).length, d.1.dfl.map dvW⟩
  | none => ⟨j, 0, []⟩
def Pg.isi (p : Pg) : Tk → W → Option Bool
  | .b n, .ty m => if (p.tks.contains n && p.tys.contains m) = true then some (subTy n m) else none
  | .b n, .cls c => if (p.tks.contains n && Nat.blt c (p.cn.length + p.xn.length)) = true then some false else none
  | .c c, .ty m => if (Nat.blt c (p.cn.length + p.xn.length) && p.tys.contains m) = true then some (Nat.ble p.cn.length c && m == "ValueError") else none
  | .c c, .cls e => if (Nat.blt c (p.cn.length + p.xn.length) && Nat.blt e (p.cn.length + p.xn.length)) = true then some (Nat.beq c e || (Nat.ble p.cn.length c && Nat.beq e p.cn.length)) else none
  | _, _ => none
def zipN (n : Nat) : List Str → List (Str × Nat)
  | [] => []
  | x :: r => (x, n) :: zipN (n + 1) r
def Pg.g (p : Pg) : Gt where
  fn := p.fnN.map fun q => (q.1, p.fi q.2)
  cl := p.clN.map fun q => (q.1, (q.2.1, p.fi q.2.2))
  ex := zipN p.cn.length p.xn
  me := p.meN.map fun q => (q.1, (q.2.1, p.fi q.2.2))
  co := p.co.map fun q => (q.1, coW q.2)
  ty := p.ty
  bi := p.bi
  fl := zipN 0 p.nm
  fv := p.fv
  isi := p.isi
  own := p.owN
def Pg.jnOf (p : Pg) (j : Nat) (d : He.DefD × List Str) : Option Nat := match p.jn j with
  | true => some (par d.1).length
  | false => none
def Pg.bs (p : Pg) (j : Nat) : Option FnB := (p.fn[j]?).map fun d => ⟨d.2, d.1.scope, d.1.body, p.jnOf j d⟩
structure At where
  v : V
  H : Hp
  ns : List Int
def Pg.k (p : Pg) (K : PySem.W.Frag) (A : At) : Kx := ⟨⟨p.nm, p.cn, p.xn.length⟩, K, ⟨p.ca K, A.v, A.H, A.ns⟩⟩
/-! ### looks -/
theorem scB_ok {d : He.DefD} {N : List Str} (h : scB d N = true) : FnScope N (par d) d.scope := by
  obtain ⟨h1, h⟩ := ba h
  obtain ⟨h2, h⟩ := ba h
  obtain ⟨h3, h⟩ := ba h
  obtain ⟨h4, h⟩ := ba h
  obtain ⟨h5, h⟩ := ba h
  obtain ⟨h6, h7⟩ := ba h
  refine ⟨of_decide_eq_true h1, by simpa using h2, by simpa using h3, of_decide_eq_true h4, of_decide_eq_true h5, fun x hx => ?_, fun y hy => of_decide_eq_true (List.all_eq_true.mp h7 y hy)⟩
  have q := List.all_eq_true.mp h6 x hx
  rw [Bool.or_eq_true] at q
  rcases q with q | q
  · exact .inl (of_decide_eq_true q)
  · exact .inr (of_decide_eq_true q)
/-! ### from the looks to Glob -/
theorem lk_mem {α : Type} {x : Str} {y : α} : ∀ {l : List (Str × α)}, l.lookup x = some y → (x, y) ∈ l
  | [], h => by cases h
  | (z, v) :: r, h => by
    rw [List.lookup_cons] at h
    cases e : x == z with
    | true => rw [e] at h; cases h; rw [beq_iff_eq.mp e]; exact List.mem_cons_self
    | false => rw [e] at h; exact List.mem_cons_of_mem _ (lk_mem h)
theorem lk_memN {α : Type} {x : Nat} {y : α} : ∀ {l : List (Nat × α)}, l.lookup x = some y → (x, y) ∈ l
  | [], h => by cases h
  | (z, v) :: r, h => by
    rw [List.lookup_cons] at h
    cases e : x == z with
    | true => rw [e] at h; cases h; rw [beq_iff_eq.mp e]; exact List.mem_cons_self
    | false => rw [e] at h; exact List.mem_cons_of_mem _ (lk_memN h)
theorem lk_map {α β : Type} {f : α → β} {x : Str} {y : β} {l : List (Str × α)} (h : (l.map fun q => (q.1, f q.2)).lookup x = some y) : ∃ a, (x, a) ∈ l ∧ y = f a := by
  obtain ⟨q, h1, h2⟩ := List.mem_map.mp (lk_mem h)
  cases h2
  exact ⟨q.2, h1, rfl⟩
theorem zipN_at {x : Str} {i : Nat} : ∀ {l : List Str} {n : Nat}, (x, i) ∈ zipN n l → n ≤ i ∧ l[i - n]? = some x
  | [], n, h => by cases h
  | y :: r, n, h => by
    rcases List.mem_cons.mp h with h | h
    · cases h
      exact ⟨Nat.le_refl _, by rw [Nat.sub_self]; rfl⟩
    · obtain ⟨h1, h2⟩ := zipN_at h
      refine ⟨by omega, ?_⟩
      have : i - n = (i - (n + 1)) + 1 := by omega
      rw [this, List.getElem?_cons_succ]
      exact h2
section
variable {k : Kx} {ρ : List Addr} {H : Hp}
theorem dv_rw {K : PySem.W.Frag} {d : He.Dv} (h : dvC d = true) : k.RW ρ H (dvW d) (d.v K) := by
  cases d with
  | non => exact .non
  | bl b => exact .bl b
  | int i => exact .int i
  | str x => exact rw_str x
  | _ => cases h
theorem dv_rws {K : PySem.W.Frag} : ∀ {l : List He.Dv}, l.all dvC = true → k.RWs ρ H (l.map dvW) (l.map (He.Dv.v K))
  | [], _ => .nil
  | d :: l, h => by
    rw [List.all_cons, Bool.and_eq_true] at h
    exact .cons (dv_rw h.1) (dv_rws h.2)
end
section
variable {p : Pg} {A : At} {P : Program} {w : World} {K : PySem.W.Frag} {mg : Str → Option Value} {base h : Heap} {F : Nat → List W → M W} {l : Nat}
theorem bindsG {x qual : Str} {params : Arguments} {body : List Stmt} {scope : Scope} {dvs : List V} {kws : List (Str × V)} {f : Addr} {fd : FuncData} {ps : List Str} (FD : FunD K x qual params body scope dvs kws f fd) (hs : simpleArgs params ps = true) (nd : ps.Nodup) (hl : dvs.length ≤ ps.length) {m : Nat} (hm : m ≤ dvs.length) :
    ∃ ds, Vals (dvs.drop (dvs.length - m)) ds ∧ L2.Binds K fd ps ds := by
  obtain ⟨oc, od, dV, kV, doc, pm, an, cdv, ct, osl, rfl, lk, hcd, hD, hK⟩ := FD.ex
  have key : ∀ (its : List Value) (o : Option (Array Value)), its.length = dvs.length → (∀ (M : Model) (s : Shared), K.In s.heap → PySem.W.Looks M s.heap (seqItems? dV) o) → (o.getD #[]).toList = its → L2.Binds K (PySem.W.fnOf x qual params body scope dV kV doc pm an cdv ct) ps (its.drop (its.length - m)) := by
    intro its o hi hlk ho s us X hlen
    refine BindsTo.of_looks fun M => ?_
    rw [List.length_append, List.length_drop] at hlen
    have hu : us.length ≤ ps.length := by omega
    have e := fill_pos (ps := ps) (us := us) (its := its) nd hu (by omega) (by omega)
    have em : ps.length - us.length = m := by omega
    rw [em] at e
    rw [← e]
    have q := bind_gen (M := M) (h := s.heap) (ps := ps) (us := us) (its := its) (kw := []) (o := o) (fd := PySem.W.fnOf x qual params body scope dV kV doc pm an cdv ct) (hlk M s X) ho hs trivial hu (by omega) (by
      rw [List.all_eq_true]
      intro n hn
      rw [List.append_nil]
      refine zip_some ?_
      have : ps.take (ps.length - its.length) = (ps.take us.length).take (ps.length - its.length) := by rw [List.take_take]; congr 1; omega
      rw [this] at hn
      exact List.mem_of_mem_take hn)
    rw [List.append_nil] at q
    exact q
  rcases hD with ⟨rfl, e⟩ | ⟨_, T, o, its, n, rfl, lT, oT, rT⟩
  · refine ⟨[], by rw [List.drop_nil]; exact .nil, ?_⟩
    have q := key [] none rfl (fun M s _ => by rw [e]; exact looks_none) rfl
    simpa using q
  · have hlen : its.length = dvs.length := rT.length.symm
    refine ⟨its.drop (its.length - m), by rw [← hlen]; exact rT.drop _, ?_⟩
    exact key its (some its.toArray) hlen (fun M s X A Q E s' kp q => wpAny_seqItems (kp _ _ (X _ _ lT)) oT q) (by simp)
/-- every def's promise -/
def FnAll (p : Pg) (K : PySem.W.Frag) (A : At) (F : Nat → List W → M W) (l : Nat) (w : World) (mg : Str → Option Value) (base : Heap) : Prop := ∀ (j : Nat) (d : He.DefD × List Str), p.fn[j]? = some d → ∃ fd, FunD K d.1.name d.1.qual d.1.params d.1.body d.1.scope (d.1.dvs K) (d.1.kws K) (He.fAd K d.1.at_) fd ∧ FnOk p.P w K mg base (CX p.P w) l (He.fAd K d.1.at_) fd (par d.1) (spM (p.k K A) (par d.1).length (F j))
theorem fact_of (hp : p.plainCk = true) (AL : FnAll p K A F l w mg base) {j : Nat} {d : He.DefD × List Str} (hj : p.fn[j]? = some d) : FnFact (p.k K A) F l p.P w mg base (p.fi j) (He.fAd K d.1.at_) := by
  obtain ⟨fd, FD, ok⟩ := AL j d hj
  have h1 := List.all_eq_true.mp (ba hp).1 d (List.mem_of_getElem? hj)
  obtain ⟨_, h1⟩ := ba h1
  obtain ⟨h2, h1⟩ := ba h1
  obtain ⟨h3, h1⟩ := ba h1
  obtain ⟨h4, h5⟩ := ba h1
  have e : p.fi j = ⟨j, (par d.1).length, d.1.dfl.map dvW⟩ := by unfold Pg.fi; rw [hj]
  rw [e]
  refine ⟨fd, par d.1, ok, fun m hm => ?_⟩
  dsimp only at hm ⊢
  rw [List.length_map] at hm ⊢
  have hd : (d.1.dvs K).length = d.1.dfl.length := by unfold He.DefD.dvs; rw [List.length_map]
  obtain ⟨ds, v, b⟩ := bindsG FD h2 (of_decide_eq_true h5) (by rw [hd]; exact Nat.le_of_ble_eq_true h4) (m := m) (by rw [hd]; exact hm)
  refine ⟨_, ds, b, v, fun ρ H => ?_⟩
  rw [hd]
  exact RWs.drop _ (dv_rws h3)
theorem cnm_lt {c : Nat} (hc : c < p.cn.length) : p.cn[c]? = some (p.cnm c) := by
  unfold Pg.cnm
  rw [List.getD_eq_getElem?_getD, List.getElem?_append_left hc, List.getElem?_eq_getElem hc]; rfl
theorem cnm_ge {c : Nat} (h1 : p.cn.length ≤ c) (h2 : c < p.cn.length + p.xn.length) : p.xn[c - p.cn.length]? = some (p.cnm c) := by
  unfold Pg.cnm
  rw [List.getD_eq_getElem?_getD, List.getElem?_append_right h1, List.getElem?_eq_getElem (by omega : c - p.cn.length < p.xn.length)]; rfl
theorem cnm_of {c : Nat} {C : Str} (h : p.cn[c]? = some C) : p.cnm c = C ∧ c < p.cn.length := by
  have hc := (List.getElem?_eq_some_iff.mp h).1
  have := cnm_lt (p := p) hc
  rw [h] at this
  exact ⟨(Option.some.inj this).symm, hc⟩
theorem isO_ok {a b : Option Bool} (h : isO a b = true) : a = b := of_decide_eq_true h
theorem isi_ok (hb : p.isiB K = true) {t : Tk} {z : W} {b : Bool} (e : p.isi t z = some b) : PySem.W.kitOne K (tyV (p.k K A) t) (clsV (p.k K A) z) = some b := by
  obtain ⟨b1, b2⟩ := ba hb
  unfold Pg.isi at e
  split at e
  · rename_i n m
    split at e
    · rename_i hc
      obtain ⟨c1, c2⟩ := ba hc
      cases e
      exact isO_ok (List.all_eq_true.mp (ba (List.all_eq_true.mp b1 n (by simpa using c1))).1 m (by simpa using c2))
    · cases e
  · rename_i n c
    split at e
    · rename_i hc
      obtain ⟨c1, c2⟩ := ba hc
      cases e
      exact isO_ok (List.all_eq_true.mp (ba (List.all_eq_true.mp b1 n (by simpa using c1))).2 c (by unfold Pg.clsL; rw [List.mem_range]; simpa using c2))
    · cases e
  · rename_i c m
    split at e
    · rename_i hc
      obtain ⟨c1, c2⟩ := ba hc
      cases e
      exact isO_ok (List.all_eq_true.mp (ba (List.all_eq_true.mp b2 c (by unfold Pg.clsL; rw [List.mem_range]; simpa using c1))).1 m (by simpa using c2))
    · cases e
  · rename_i c d
    split at e
    · rename_i hc
      obtain ⟨c1, c2⟩ := ba hc
      cases e
      exact isO_ok (List.all_eq_true.mp (ba (List.all_eq_true.mp b2 c (by unfold Pg.clsL; rw [List.mem_range]; simpa using c1))).2 d (by unfold Pg.clsL; rw [List.mem_range]; simpa using c2))
    · cases e
  · cases e
/-- the opaque value equals itself -/
def AtOk (p : Pg) (K : PySem.W.Frag) (A : At) (l : Nat) (w : World) (mg : Str → Option Value) (base : Heap) : Prop := ∀ X : Cx, X.prog = p.P → X.w = w → X.mg = mg → X.base = base → X.K = K → Room (l + 1) X.A → Room 20 X.A → (∃ Wx, Takes X Wx) → AtEq X (p.k K A)
theorem AtOk.mono {l' : Nat} (h : l ≤ l') (a : AtOk p K A l w mg base) : AtOk p K A l' w mg base := fun X h1 h2 h3 h4 h5 h6 => a X h1 h2 h3 h4 h5 (h6.mono (by omega))
theorem glob_of (hp : p.plainCk = true) (hk : p.ck K = true) (X : K.In h) (G : h.Ns mainGlobals mg) (AL : FnAll p K A F l w mg base) (AO : AtOk p K A l w mg base) (hn : A.ns.length < 64) : Glob (p.k K A) p.g F l (p.D K) p.P w mg base := by
  have hp0 := hp
  unfold Pg.plainCk at hp
  obtain ⟨p1, hp⟩ := ba hp
  obtain ⟨p2, hp⟩ := ba hp
  obtain ⟨p3, hp⟩ := ba hp
  obtain ⟨p4, hp⟩ := ba hp
  obtain ⟨p5, hp⟩ := ba hp
  obtain ⟨p6, hp⟩ := ba hp
  obtain ⟨p7, hp⟩ := ba hp
  obtain ⟨p8, hp⟩ := ba hp
  obtain ⟨p9, p10⟩ := ba hp
  unfold Pg.ck at hk
  obtain ⟨k1, hk⟩ := ba hk
  obtain ⟨k2, hk⟩ := ba hk
  obtain ⟨k3, hk⟩ := ba hk
  obtain ⟨k4, hk⟩ := ba hk
  obtain ⟨k5, hk⟩ := ba hk
  obtain ⟨k6, hk⟩ := ba hk
  obtain ⟨k7, hk⟩ := ba hk
  obtain ⟨k8, hk⟩ := ba hk
  obtain ⟨k9, hk⟩ := ba hk
  obtain ⟨k10, hk⟩ := ba hk
  obtain ⟨k11, hk⟩ := ba hk
  obtain ⟨k12, k13⟩ := ba hk
  have cl : ∀ c, c < p.cn.length → (He.Fa.cls (p.cnm c)).ok K = true ∧ (∀ f ∈ p.nm, (He.Fa.noat (p.cnm c) f).ok K = true) ∧ PySem.W.findIn K (.ref (He.ga K (p.cnm c))) "__class__" = some (some (.builtin "object.__class__")) ∧ PySem.W.mroIn K (He.ga K (p.cnm c)) (.type "object") = some true := fun c hc => by
    obtain ⟨z1, z⟩ := ba (List.all_eq_true.mp k1 _ (List.mem_of_getElem? (cnm_lt hc)))
    obtain ⟨z2, z⟩ := ba z
    obtain ⟨z3, z4⟩ := ba z
    exact ⟨z1, fun f hf => List.all_eq_true.mp z2 f hf, of_decide_eq_true z3, of_decide_eq_true z4⟩
  have ex : ∀ c, p.cn.length ≤ c → c < p.cn.length + p.xn.length → (He.Fa.glo (p.cnm c)).ok K = true ∧ uexB K (p.D K) (He.ga K (p.cnm c)) = true ∧ excB K (He.ga K (p.cnm c)) = true ∧ PySem.W.findIn K (.ref (He.ga K (p.cnm c))) "__init__" = some (some (.ref (p.fI K))) := fun c h1 h2 => by
    obtain ⟨z1, z⟩ := ba (List.all_eq_true.mp k2 _ (List.mem_of_getElem? (cnm_ge h1 h2)))
    obtain ⟨z2, z⟩ := ba z
    obtain ⟨z3, z4⟩ := ba z
    exact ⟨z1, z2, z3, of_decide_eq_true z4⟩
  obtain ⟨ti, fdI, okI, bdI⟩ := initB_ok (w := w) (base := base) X G k3
  exact {
    cls := ⟨fun c hc => He.cls_ok (cl c hc).1, fun c hc f x hx => He.noat_ok ((cl c hc).2.1 x (List.mem_of_getElem? hx)), of_decide_eq_true p2⟩
    exs := ⟨fun c h1 h2 => uexB_ok (ex c h1 h2).2.1, fun c h1 h2 => (excB_ok (ex c h1 h2).2.2.1).2.1, fun c h1 h2 => (excB_ok (ex c h1 h2).2.2.1).1⟩
    exq := ⟨fun c h1 h2 => (excB_ok (ex c h1 h2).2.2.1).2.2⟩
    isi := {
      wf := fun t z b e => by
        have e' : p.isi t z = some b := e
        unfold Pg.isi at e'
        split at e'
        · exact .inl ⟨_, rfl⟩
        · exact .inr ⟨_, rfl⟩
        · exact .inl ⟨_, rfl⟩
        · exact .inr ⟨_, rfl⟩
        · cases e'
      one := fun t z b e => isi_ok k13 e
      hn := of_decide_eq_true k11
      ht := of_decide_eq_true k12
      ha := fun c hc => (cl c hc).2.2.1
      hm := fun c hc => (cl c hc).2.2.2 }
    nm := fun x f hx => by
      have := (zipN_at (lk_mem hx)).2
      rw [Nat.sub_zero] at this
      exact this
    fv := of_decide_eq_true p3
    me0 := fun x c fi hx => by
      obtain ⟨a, ha, _⟩ := lk_map (f := fun q : Nat × Nat => (q.1, p.fi q.2)) hx
      have := List.all_eq_true.mp p4 _ ha
      intro (hm : x ∈ p.nm)
      have : p.nm.contains x = false := by simpa using this
      rw [List.contains_iff_mem.mpr hm] at this
      cases this
    fn := fun x fi hx => by
      obtain ⟨j, ha, rfl⟩ := lk_map (f := fun q : Nat => p.fi q) hx
      have q := List.all_eq_true.mp p5 _ ha
      dsimp only at q
      cases hj : p.fn[j]? with
      | none => rw [hj] at q; cases q
      | some d =>
        rw [hj] at q
        have e : d.1.at_ = (x, none) := of_decide_eq_true q
        have fa := fact_of hp0 AL hj
        obtain ⟨fd, FD, _⟩ := AL j d hj
        have kp := FD.kp
        rw [e] at fa kp
        exact ⟨_, He.glo_ok X G (List.all_eq_true.mp k4 _ ha), kp, fa⟩
    cl := fun x c fi hx => by
      obtain ⟨a, ha, e⟩ := lk_map (f := fun q : Nat × Nat => (q.1, p.fi q.2)) hx
      cases e
      have q := List.all_eq_true.mp p6 _ ha
      dsimp only at q
      cases hj : p.fn[a.2]? with
      | none => rw [hj] at q; cases q
      | some d =>
        cases hc : p.cn[a.1]? with
        | none => rw [hj, hc] at q; cases q
        | some C =>
          rw [hj, hc] at q
          obtain ⟨q1, q2⟩ := ba q
          have e1 : C = x := of_decide_eq_true q1
          have e2 : d.1.at_ = (x, some ("__init__" : Str)) := of_decide_eq_true q2
          obtain ⟨e3, hlt⟩ := cnm_of hc
          obtain ⟨z1, z2⟩ := ba (List.all_eq_true.mp k5 _ ha)
          have fa := fact_of hp0 AL hj
          rw [e2] at fa
          have ec : (p.k K A).ca a.1 = He.ga K x := by show He.ga K (p.cnm a.1) = _; rw [e3, e1]
          rw [ec]
          exact ⟨He.glo_ok X G z1, hlt, _, He.mkr_ok z2, fa⟩
    me := fun x c fi hx => by
      obtain ⟨a, ha, e⟩ := lk_map (f := fun q : Nat × Nat => (q.1, p.fi q.2)) hx
      cases e
      have q := List.all_eq_true.mp p7 _ ha
      dsimp only at q
      cases hj : p.fn[a.2]? with
      | none => rw [hj] at q; cases q
      | some d =>
        cases hc : p.cn[a.1]? with
        | none => rw [hj, hc] at q; cases q
        | some C =>
          rw [hj, hc] at q
          have e2 : d.1.at_ = (C, some x) := of_decide_eq_true q
          obtain ⟨e3, hlt⟩ := cnm_of hc
          have z := List.all_eq_true.mp k6 _ ha
          dsimp only at z
          rw [List.getD_eq_getElem?_getD, hc] at z
          have fa := fact_of hp0 AL hj
          rw [e2] at fa
          have ec : (p.k K A).ca a.1 = He.ga K C := by show He.ga K (p.cnm a.1) = _; rw [e3]
          rw [ec]
          exact ⟨hlt, _, He.meth_ok z, fa⟩
    ex := fun x c hx => by
      obtain ⟨h1, h2⟩ := zipN_at (lk_mem hx)
      have h3 : c < p.cn.length + p.xn.length := by have := (List.getElem?_eq_some_iff.mp h2).1; omega
      have e := cnm_ge (p := p) h1 h3
      rw [h2] at e
      have e : x = p.cnm c := Option.some.inj e
      obtain ⟨z1, z2, z3, z4⟩ := ex c h1 h3
      refine ⟨?_, h1, h3, p.fI K, fdI, z4, ti, okI _ _, bdI⟩
      rw [e]
      exact He.glo_ok X G z1
    co := fun x z hx => by
      obtain ⟨a, ha, rfl⟩ := lk_map (f := coW) hx
      have q := List.all_eq_true.mp k8 _ ha
      unfold coB at q
      dsimp only at q
      cases a with
      | int i =>
        obtain ⟨t, m⟩ := He.int_ok X G q
        exact ⟨.int i, _, m, ⟨t, rfl⟩, fun _ _ => .int i⟩
      | str s =>
        obtain ⟨t, m⟩ := He.str_ok X G q
        exact ⟨.str s, _, m, ⟨t, rfl⟩, fun _ _ => rw_str s⟩
      | tup vs =>
        obtain ⟨q1, q⟩ := ba q
        obtain ⟨q2, q3⟩ := ba q
        exact ⟨.ref (He.ga K x), _, He.glo_ok X G q2, rfl, fun ρ H => .tup (He.tupB_ok q3 H) (dv_rws q1)⟩
    ty := fun x n hx => ⟨He.free_ok X G (List.all_eq_true.mp k9 _ (lk_mem hx)), of_decide_eq_true (List.all_eq_true.mp p9 _ (lk_mem hx))⟩
    bi := fun x hx => He.free_ok X G (List.all_eq_true.mp k10 _ hx)
    ate := AO
    sl := hn
    own := fun c j hx => by
      have ha := lk_memN hx
      have q := List.all_eq_true.mp p8 _ ha
      dsimp only at q
      cases hj : p.fn[j]? with
      | none => rw [hj] at q; cases q
      | some d =>
        cases hc : p.cn[c]? with
        | none => rw [hj, hc] at q; cases q
        | some C =>
          rw [hj, hc] at q
          obtain ⟨q1, q⟩ := ba q
          obtain ⟨q2, q3⟩ := ba q
          have e2 : d.1.at_ = (C, some ("__eq__" : Str)) := of_decide_eq_true q1
          have e4 := of_decide_eq_true q3
          obtain ⟨e3, hlt⟩ := cnm_of hc
          have z := List.all_eq_true.mp k7 _ ha
          dsimp only at z
          rw [List.getD_eq_getElem?_getD, hc] at z
          have mt := He.meth_ok z
          obtain ⟨fd, FD, ok⟩ := AL j d hj
          obtain ⟨fd', ps', ok', bd⟩ := (fact_of hp0 AL hj).ok
          have hpl := List.all_eq_true.mp p1 d (List.mem_of_getElem? hj)
          obtain ⟨_, hpl⟩ := ba hpl
          obtain ⟨h2, hpl⟩ := ba hpl
          obtain ⟨h3, hpl⟩ := ba hpl
          obtain ⟨h4, h5⟩ := ba hpl
          have hd : d.1.dvs K = [] := by unfold He.DefD.dvs; rw [List.isEmpty_iff.mp q2]; rfl
          obtain ⟨ds, v, b⟩ := bindsG FD h2 (of_decide_eq_true h5) (by rw [hd]; exact Nat.zero_le _) (m := 0) (Nat.zero_le _)
          rw [hd] at v
          cases v
          have ec : (p.k K A).ca c = He.ga K C := by show He.ga K (p.cnm c) = _; rw [e3]
          rw [ec]
          rw [e2, e4] at ok
          exact ⟨_, fd, par d.1, ok, mt.at_, mt.fn, b⟩ }
/-- by the depth -/
theorem fn_all {F0 : Nat → List W → M W} {ov : Nat → Bool} {l0 : Nat} (hl : 19 ≤ l0) (hp : p.plainCk = true) (hk : p.ck K = true) (X : K.In h) (G : h.Ns mainGlobals mg) (A0 : FnAll p K A F0 l0 w mg base) (AO : AtOk p K A l0 w mg base) (hn : A.ns.length < 64) :
    ∀ n, FnAll p K A (fnT p.g p.bs F0 ov n) (l0 + 2 * n) w mg base
  | 0 => A0
  | n + 1 => fun j d hj => by
    obtain ⟨fd, FD, ok0⟩ := A0 j d hj
    cases ho : ov j with
    | true =>
      have e : fnT p.g p.bs F0 ov (n + 1) j = F0 j := by
        show (match ov j with
          | true => F0 j
          | false => match p.bs j with
            | some b => runF (esB p.g (fnT p.g p.bs F0 ov n) b) b.N.length
            | none => fun _ => M.err) = _
        rw [ho]
      rw [e]
      exact ⟨fd, FD, ok0.mono (by omega)⟩
    | false =>
      have ih := fn_all (ov := ov) hl hp hk X G A0 AO hn n
      have GL := glob_of hp hk X G ih (AO.mono (by omega)) hn
      have h1 := (ba (List.all_eq_true.mp (ba hp).1 d (List.mem_of_getElem? hj))).1
      have hb : p.bs j = some ⟨d.2, d.1.scope, d.1.body, p.jnOf j d⟩ := by unfold Pg.bs; rw [hj]; rfl
      exact ⟨fd, FD, fn_ok (b := ⟨d.2, d.1.scope, d.1.body, p.jnOf j d⟩) ho hb FD (scB_ok h1) (by omega) GL⟩
/-- nothing is known of any def -/
theorem fn_none (S : ∀ (j : Nat) (d : He.DefD × List Str), p.fn[j]? = some d → ∃ fd, FunD K d.1.name d.1.qual d.1.params d.1.body d.1.scope (d.1.dvs K) (d.1.kws K) (He.fAd K d.1.at_) fd) (l : Nat) : FnAll p K A (fun _ _ => M.err) l w mg base := fun j d hj => by
  obtain ⟨fd, FD⟩ := S j d hj
  exact ⟨fd, FD, fn_err (k := p.k K A) rfl⟩
end
end
end Ev
set_option Elab.async false
set_option linter.all false
set_option maxRecDepth 100000
namespace Ev
open PySem L2 PySem.Spec PyProof.Rows
noncomputable section
/-! ### the end -/
/-- a law's end, what leaves defs may hang on the world -/
theorem walk_W {l : PySem.W.OpenLaw} {n k : Nat} {q : Program} {loose : List Str} {XP : (Str → Option Value) → Heap → Prop} {YP : World → Heap → Prop} {d : DefRec} {CX : World → CXT} {x : Str}
    (hn : l.most = some n) (hn2 : n ≤ sizeLine) (hdf : d.params.defaults = []) (hr : Room k callerA)
    (F : ∀ (w : World) (mg : Str → Option Value) (fa : Addr) (h : Heap), YP w h → h.Ns mainGlobals mg → mg d.name = some (.ref fa) →
      ∃ (K : PySem.W.Frag) (fd : FuncData) (sp : Sp), K.In h ∧ (∀ (s : Shared) (u : Value), BindsTo s fd ⟨[u], []⟩ [(x, u)]) ∧
        (∀ (H : Hp) (a : Addr) (ns : List Int), ns.length ≤ n → Only H → SqL K H a (ns.map V.int) → sp [.ref a] H (fun v _ => v = .bl true) fun _ _ _ => False) ∧
        ∀ base : Heap, K.In base → base.Ns mainGlobals mg → FnOk l.prog w K mg base (CX w) k fa fd [x] sp)
    (hCX : ∀ (w : World) (H : Hp) (s : Shared) (e : Value) (s' : Shared), CX w [] H s (fun _ _ _ => False) e s' → False) :
    PySem.W.WalkO q loose XP YP l.row.toRowW d [] (fun f vs => PySem.call f vs) := by
  refine Att.attach_call hn hdf fun w s₀ s₁ mg mb fa o pm cd doc a vs ns G Y ho hd hcd hmg hobj hints hlen hg => ?_
  obtain ⟨K, fd, sp, KX, hb, hsp, hF⟩ := F w mg fa _ Y G.T.g hmg
  exact law_call KX G.T.g G.T.b G.T.builtins G.T.nolimit hg hobj hints (Nat.le_trans hlen hn2) hr hF hb (fun H hO hS => hsp H a ns hlen hO hS) fun H e s' => hCX w H s₁ e s'
theorem ints_rws {k : Kx} {ρ : List Addr} {H : Hp} : ∀ ns : List Int, k.RWs ρ H (ns.map W.int) (ns.map V.int)
  | [] => .nil
  | n :: ns => .cons (.int n) (ints_rws ns)
theorem only_roL {K : PySem.W.Frag} {H : Hp} {a : Addr} {vs : List V} (o : Only H) (s : SqL K H a vs) : RoL K H a vs := by
  rcases s with (s | s) | s
  · rcases o a with z | ⟨o, xs, z⟩
    · rw [s] at z; cases z
    · rw [s] at z; cases z
  · exact .inl s
  · exact .inr s
/-- every branch ends so -/
def Lv {α : Type} (Q : α → Hv → Prop) : Res α → Prop
  | .ok a h => Q a h
  | .exc _ _ _ => False
  | .err => False
  | .ask n f => ∀ i, i < n → Lv Q (f i)
theorem Lv.mono {α : Type} {Q Q' : α → Hv → Prop} (f : ∀ a h, Q a h → Q' a h) : ∀ {r : Res α}, Lv Q r → Lv Q' r
  | .ok a h, t => f a h t
  | .exc _ _ _, t => t
  | .err, t => t
  | .ask n q, t => fun i hi => Lv.mono f (t i hi)
theorem Lv.bind {α β : Type} {Q : α → Hv → Prop} {Q' : β → Hv → Prop} {f : α → Hv → Res β} (hf : ∀ a h, Q a h → Lv Q' (f a h)) : ∀ {r : Res α}, Lv Q r → Lv Q' (r.bind f)
  | .ok a h, t => hf a h t
  | .exc _ _ _, t => t.elim
  | .err, t => t.elim
  | .ask n q, t => fun i hi => Lv.bind hf (t i hi)
theorem Lv.tm {k : Kx} {Wx : WX} {σ : L2.St} {ρ : List Addr} {H : Hp} {α : Type} {R : List Addr → Hv → Hp → α → Prop} : ∀ {r : Res α}, Lv (fun a h => ∀ ρ' H', k.Go ρ H ρ' h H' → R ρ' h H' a) r → TmR k Wx σ ρ H R r
  | .ok a h, t => t
  | .exc _ _ _, t => t.elim
  | .err, t => t.elim
  | .ask n q, t => fun i hi => Lv.tm (t i hi)
abbrev Funs (p : Pg) (K : PySem.W.Frag) : Prop := ∀ (j : Nat) (d : He.DefD × List Str), p.fn[j]? = some d → ∃ fd, FunD K d.1.name d.1.qual d.1.params d.1.body d.1.scope (d.1.dvs K) (d.1.kws K) (He.fAd K d.1.at_) fd
/-- no opaque value -/
def A0 (ns : List Int) : At := ⟨.non, fun _ => none, ns⟩
/-- a def that keeps each of some promises -/
theorem fn_any {P : Program} {w : World} {K : PySem.W.Frag} {mg : Str → Option Value} {base : Heap} {CX : CXT} {n : Nat} {f : Addr} {fd : FuncData} {ps : List Str} {sp : Sp} (h : ∀ vs H Q E, sp vs H Q E → ∃ sp', FnOk P w K mg base CX n f fd ps sp' ∧ sp' vs H Q E) : FnOk P w K mg base CX n f fd ps sp :=
  ⟨fun vs H Q E z => let ⟨_, F, q⟩ := h vs H Q E z; F.len vs H Q E q, fun A outer s H args us vs Q E hr e0 hb r z => let ⟨_, F, q⟩ := h vs H Q E z; F.run A outer s H args us vs Q E hr e0 hb r q⟩
/-- the law's def is number j, its depth n -/
theorem law_walk {l : PySem.W.OpenLaw} {q : Program} {loose : List Str} {XP : (Str → Option Value) → Heap → Prop} {d : DefRec} (p : Pg) (hp : p.plainCk = true) (hP : l.prog = p.P) (F : Nat → List W → M W) (n j : Nat) {d1 : He.DefD × List Str} {x : Str} (hj : p.fn[j]? = some d1) (hat : d1.1.at_ = (("law" : Str), none)) (hx : par d1.1 = [x]) (hdf1 : d1.1.dfl = []) (hdn : d.name = ("law" : Str))
    (hn : l.most = some 63) (hdf : d.params.defaults = []) (hr : Room n callerA)
    (hall : ∀ (w : World) (K : PySem.W.Frag) (mg : Str → Option Value) (base : Heap) (ns : List Int), ns.length ≤ 63 → K.In base → base.Ns mainGlobals mg → p.ck K = true → Funs p K → FnAll p K (A0 ns) F n w mg base)
    (hlaw : Lv (fun w _ => w = .bl true) (F j [.scr] [])) : PySem.W.WalkO q loose XP p.hk.says l.row.toRowW d [] (fun f vs => PySem.call f vs) := by
  refine walk_W (l := l) (n := 63) (k := n) (x := x) (CX := fun w => L2.CX p.P w) hn (by decide) hdf hr ?F ?hCX
  case hCX => intro w H s e s' ⟨_, _, _, _, _, _, _, _, _, _, _, _, z⟩; exact z
  case F =>
    intro w mg fa h ⟨K, KX, c, ck⟩ G hmg
    have hl := He.glo_ok KX G (c.fact 0 (f := .glo "law") rfl)
    rw [hdn, hl] at hmg
    cases hmg
    have S : Funs p K := fun j d hj =>
      c.def_ j (d := d.1) (by show (p.fn.map (·.1))[j]? = _; rw [List.getElem?_map, hj]; rfl)
    obtain ⟨fd, FD⟩ := S j d1 hj
    have hpl := List.all_eq_true.mp (ba hp).1 d1 (List.mem_of_getElem? hj)
    obtain ⟨_, hpl⟩ := ba hpl
    obtain ⟨h2, hpl⟩ := ba hpl
    obtain ⟨h3, hpl⟩ := ba hpl
    obtain ⟨h4, h5⟩ := ba hpl
    have bd : ∀ (s : Shared) (u : Value), BindsTo s fd ⟨[u], []⟩ [(x, u)] := fun s u => by
      obtain ⟨oc, od, dV, kV, doc, pm, an, cdv, ct, osl, rfl, lk, hcd, hD, hK⟩ := FD.ex
      have hd : d1.1.dvs K = [] := by unfold He.DefD.dvs; rw [hdf1]; rfl
      rcases hD with ⟨_, rfl⟩ | ⟨e, _⟩
      · refine BindsTo.of_looks fun M => ?_
        rw [hx] at h2
        have q := bind_gen (M := M) (h := s.heap) (ps := [x]) (us := [u]) (its := []) (kw := []) (o := none) (fd := PySem.W.fnOf d1.1.name d1.1.qual d1.1.params d1.1.body d1.1.scope .none kV doc pm an cdv ct) looks_none rfl h2 trivial (Nat.le_refl _) (Nat.zero_le _) (by
          rw [List.all_eq_true]
          intro n hn
          rw [List.append_nil]
          exact zip_some hn)
        have e := fill_pos (ps := [x]) (us := [u]) (its := []) (by simp) (Nat.le_refl _) (Nat.zero_le _) (Nat.zero_le _)
        rw [List.append_nil, e] at q
        exact q
      · exact absurd hd e
    refine ⟨K, fd, fun vs H Q E => ∃ ns : List Int, ns.length ≤ 63 ∧ spM (p.k K (A0 ns)) 1 (F j) vs H Q E, KX, bd, fun H a ns hlen hO hS => ?_, fun base Kb Gb => fn_any fun vs H Q E ⟨ns, hlen, z⟩ => ⟨_, ?_, z⟩⟩
    · refine ⟨ns, hlen, rfl, [], [], [.scr], ⟨rfl, List.nodup_nil, fun i a o e => by simp at e, fun b o e => by cases e⟩, .cons (.scr (only_roL hO hS)) .nil, ?_⟩
      refine Lv.tm (Lv.mono (fun a h e => ?_) hlaw)
      intro ρ' H' _ v r
      subst e
      cases r
      rfl
    · obtain ⟨fd', FD', ok⟩ := hall w K mg base ns hlen Kb Gb ck S j d1 hj
      have : fd' = fd := by
        obtain ⟨_, _, _, _, _, _, _, _, _, _, _, lk, _⟩ := FD.ex
        obtain ⟨_, _, _, _, _, _, _, _, _, _, _, lk', _⟩ := FD'.ex
        rw [lk] at lk'
        injection lk' with z
        injection z with _ _ z
        injection z with z
        exact z.symm
      subst this
      rw [hat, hx] at ok
      rw [hP]
      exact ok
end
end Ev
set_option Elab.async false
set_option linter.all false
set_option maxRecDepth 100000
namespace Ev
open PySem L2 PySem.Spec PyProof.Rows
noncomputable section
/-! ### the law's draws -/
theorem bind_h {α β : Type} (m : M α) (f : α → M β) (h : Hv) : (m >>= f) h = (m h).bind fun a h' => f a h' := rfl
theorem ok_bind {α β : Type} (a : α) (h : Hv) (f : α → Hv → Res β) : (Res.ok a h).bind f = f a h := rfl
theorem pure_h {α : Type} (a : α) (h : Hv) : (pure a : M α) h = .ok a h := rfl
/-- pot[i] -/
abbrev pI (i : Int) : EE := evB ixW (evV 0) (evC (.int i))
abbrev eI1 (e : EE) : EE := evCallP intP (evArgs [(false, e)])
abbrev kI (i : Int) : EE := evC (.int i)
structure Dw where
  a : Int
  b : Int
  m : Int
  s : Int
  d : Int
def takeClo (c : Dw) : ES :=
  sSeq (sIf (evTb (evB gtW (pI 0) (kI 0)))
    (sSeq (sAsg (gN 2) (evB modW (eI1 (pI 0)) (evV 1))) (sSeq (sSetI (evV 0) (kI 0) (evB fdivW (pI 0) (evV 1))) (sSeq (sRet (evV 2)) sPass))) sPass)
  (sSeq (sSetI (evV 0) (kI 2) (evB addW (pI 2) (kI 1)))
  (sSeq (sAsg (gN 3) (evB ixW (evLst (evArgs [(false, kI 2147483647), (false, kI 2147483629), (false, kI 2147483587), (false, kI 2147483579), (false, kI 2147483563)])) (evB modW (eI1 (pI 2)) (kI 5))))
  (sSeq (sAsg (gN 4) (evB modW (eI1 (evB powW (eI1 (evB addW (evB addW (pI 1) (evB mulW (evB mulW (kI c.a) (pI 2)) (pI 2))) (kI c.b))) (kI 3))) (evV 3)))
  (sSeq (sRet (evB modW (eI1 (evB fdivW (evB mulW (evV 4) (evB addW (evB modW (eI1 (evV 4)) (kI c.m)) (evB mulW (kI c.s) (pI 2)))) (kI c.d))) (evV 1))) sPass))))
theorem trim_ok {n : Nat} {ok : Bool} {h : Hv} (h1 : ok = true) (h2 : (h.take n).all (O.below n) = true) : trim n ok h = h.take n := by
  unfold trim
  by_cases c : h.length ≤ n
  · rw [if_pos c, List.take_of_length_le c]
  · rw [if_neg c, if_pos (by rw [h1, h2]; rfl)]
theorem trim_same {n : Nat} {ok : Bool} {h : Hv} (h1 : h.length = n) : trim n ok h = h := by
  unfold trim
  rw [if_pos (by omega)]
/-- one step of expressions over plain values -/
theorem r_C (w : W) (env : En) (h : Hv) : evC w env h = .ok w h := rfl
theorem r_V {i : Nat} {w : W} {env : En} {h : Hv} (e : env[i]? = some (some w)) : evV i env h = .ok w h := by
  unfold evV
  rw [e]; rfl
theorem r_B {f : W → W → P W} {a b : EE} {env : En} {h h1 h2 : Hv} {x y z : W} {h3 : Hv} (ea : a env h = .ok x h1) (eb : b env h1 = .ok y h2) (ef : f x y h2 = some (z, h3)) : evB f a b env h = .ok z h3 := by
  show ((a env h).bind fun x h' => (b env h').bind fun y h'' => (f x y).up h'') = _
  rw [ea, ok_bind, eb, ok_bind]
  unfold P.up
  rw [ef]
theorem r_I1 {e : EE} {env : En} {h h1 : Hv} {i : Int} (ea : e env h = .ok (.int i) h1) : eI1 e env h = .ok (.int i) h1 := by
  show ((((e env h).bind fun x h' => .ok [x] h').bind fun ws h' => (intP ws).up h') : Res W) = _
  rw [ea]; rfl
theorem r_asg {i : Nat} {e : EE} {env : En} {h h1 : Hv} {w : W} (ea : e env h = .ok w h1) : sAsg (gN i) e env h = .ok (.nx (env.set i (some w))) (trim h.length (enBelow h.length (env.set i (some w))) h1) := by
  show (((e env h).bind fun w h' => .ok (.nx (env.set i (some w))) h').bind fun fl h' => .ok fl (trim h.length (flBelow h.length fl) h') : Res Fl) = _
  rw [ea]; rfl
theorem r_seq {a b : ES} {env env' : En} {h h1 : Hv} (ea : a env h = .ok (.nx env') h1) : sSeq a b env h = b env' h1 := by
  show ((a env h).bind fun f h' => (match f with | .nx env' => b env' | f => pure f : M Fl) h') = _
  rw [ea]; rfl
theorem r_seqR {a b : ES} {env : En} {h h1 : Hv} {w : W} (ea : a env h = .ok (.rt w) h1) : sSeq a b env h = .ok (.rt w) h1 := by
  show ((a env h).bind fun f h' => (match f with | .nx env' => b env' | f => pure f : M Fl) h') = _
  rw [ea]; rfl
theorem r_ret {e : EE} {env : En} {h h1 : Hv} {w : W} (ea : e env h = .ok w h1) : sRet e env h = .ok (.rt w) h1 := by
  show ((e env h).bind fun w h' => .ok (.rt w) h' : Res Fl) = _
  rw [ea]; rfl
theorem r_ifT {c : ET} {a b : ES} {env : En} {h h1 : Hv} (ec : c env h = .ok true h1) : sIf c a b env h = a env (trim h.length true h1) := by
  show ((((c env h).bind fun t h' => .ok t (trim h.length true h')) : Res Bool).bind fun t h' => (match t with | true => a env | false => b env : M Fl) h') = _
  rw [ec]; rfl
theorem r_ifF {c : ET} {a b : ES} {env : En} {h h1 : Hv} (ec : c env h = .ok false h1) : sIf c a b env h = b env (trim h.length true h1) := by
  show ((((c env h).bind fun t h' => .ok t (trim h.length true h')) : Res Bool).bind fun t h' => (match t with | true => a env | false => b env : M Fl) h') = _
  rw [ec]; rfl
theorem r_Tb {e : EE} {env : En} {h h1 : Hv} {t : Bool} (ea : e env h = .ok (.bl t) h1) : evTb e env h = .ok t h1 := by
  show ((e env h).bind fun w h' => (boolP w).up h') = _
  rw [ea]; rfl
theorem r_setI {o i e : EE} {env : En} {h : Hv} {n : Nat} {j : Int} {w : W} {xs : List W} {m : Nat} (ee : e env h = .ok w h) (eo : o env h = .ok (.ref n) h) (ei : i env h = .ok (.int j) h) (el : h[n]? = some (.lst xs)) (em : ixN xs.length j = some m) :
    sSetI o i e env h = .ok (.nx env) (h.set n (.lst (xs.set m w))) := by
  show (((e env h).bind fun w h' => (o env h').bind fun x h' => (i env h').bind fun y h' => ((setIP x y w).up h').bind fun _ h' => .ok (.nx env) h').bind fun fl h' => .ok fl (trim h.length (flBelow h.length fl) h') : Res Fl) = _
  rw [ee, ok_bind, eo, ok_bind, ei, ok_bind]
  have : (setIP (.ref n) (.int j) w).up h = .ok .non (h.set n (.lst (xs.set m w))) := by
    unfold P.up setIP P.obj
    dsimp only
    rw [el]
    dsimp only
    unfold setLP
    dsimp only
    rw [em]
    rfl
  rw [this, ok_bind, ok_bind, trim_same (by rw [List.length_set])]
theorem r_ix {a b : EE} {env : En} {h : Hv} {n : Nat} {i : Int} {xs : List W} {w : W} (ea : a env h = .ok (.ref n) h) (eb : b env h = .ok (.int i) h) (el : h[n]? = some (.lst xs)) (ei : atI xs i = some w) : evB ixW a b env h = .ok w h := by
  refine r_B ea eb ?_
  unfold ixW P.obj
  dsimp only
  rw [el]
  dsimp only
  rw [ei]; rfl
structure Dw.Ok (c : Dw) : Prop where
  a : 0 ≤ c.a ∧ c.a < 1000000
  b : 0 ≤ c.b ∧ c.b < 1000000
  m : 0 < c.m ∧ c.m < 1000000
  s : 0 ≤ c.s ∧ c.s < 1000000
  d : 0 < c.d ∧ c.d < 1000000
theorem at3_0 (x y z : W) : atI [x, y, z] 0 = some x := rfl
theorem at3_1 (x y z : W) : atI [x, y, z] 1 = some y := rfl
theorem at3_2 (x y z : W) : atI [x, y, z] 2 = some z := rfl
theorem all_set {n i : Nat} {h : Hv} {o : O} (hb : h.all (O.below n) = true) (ho : O.below n o = true) : (h.set i o).all (O.below n) = true := by
  rw [List.all_eq_true] at hb ⊢
  intro x hx
  rcases List.mem_or_eq_of_mem_set hx with hx | hx
  · exact hb x hx
  · rw [hx]; exact ho
theorem small_of {i : Int} (h1 : 0 ≤ i) (h2 : i < 2 ^ 64) : small64 i = true := by
  unfold small64
  rw [decide_eq_true (by omega), decide_eq_true h2]; rfl
/-- what the real draw does -/
theorem take_run {c : Dw} (hc : c.Ok) {h : Hv} {i : Nat} {n x y z : Int} (hb : h.all (O.below h.length) = true) (hi : h[i]? = some (.lst [.int x, .int y, .int z])) (hn : 1 ≤ n ∧ n < 1000000) (hx : 0 ≤ x ∧ x < 10 ^ 300) (hy : 0 ≤ y ∧ y < 2 ^ 61) (hz : 0 ≤ z ∧ z < 5000) :
    ∃ r x' z' : Int, runF (takeClo c) 5 [.ref i, .int n] h = .ok (.int r) (h.set i (.lst [.int x', .int y, .int z'])) ∧ 0 ≤ r ∧ r < n ∧ 0 ≤ x' ∧ x' < 10 ^ 300 ∧ z ≤ z' ∧ z' ≤ z + 1 := by
  have hl : i < h.length := (List.getElem?_eq_some_iff.mp hi).1
  have hil : Nat.blt i h.length = true := Nat.ble_eq_true_of_le hl
  let env : En := [some (.ref i), some (.int n), none, none, none]
  have v0 : ∀ (e2 e3 e4 : Option W) (h : Hv), evV 0 [some (.ref i), some (.int n), e2, e3, e4] h = .ok (.ref i) h := fun _ _ _ h => rfl
  have v1 : ∀ (e2 e3 e4 : Option W) (h : Hv), evV 1 [some (.ref i), some (.int n), e2, e3, e4] h = .ok (.int n) h := fun _ _ _ h => rfl
  have p0 : ∀ (e2 e3 e4 : Option W) (h : Hv) (x y z : Int), h[i]? = some (.lst [.int x, .int y, .int z]) → pI 0 [some (.ref i), some (.int n), e2, e3, e4] h = .ok (.int x) h := fun e2 e3 e4 h x y z e => r_ix (v0 e2 e3 e4 h) rfl e (at3_0 _ _ _)
  have p1 : ∀ (e2 e3 e4 : Option W) (h : Hv) (x y z : Int), h[i]? = some (.lst [.int x, .int y, .int z]) → pI 1 [some (.ref i), some (.int n), e2, e3, e4] h = .ok (.int y) h := fun e2 e3 e4 h x y z e => r_ix (v0 e2 e3 e4 h) rfl e (at3_1 _ _ _)
  have p2 : ∀ (e2 e3 e4 : Option W) (h : Hv) (x y z : Int), h[i]? = some (.lst [.int x, .int y, .int z]) → pI 2 [some (.ref i), some (.int n), e2, e3, e4] h = .ok (.int z) h := fun e2 e3 e4 h x y z e => r_ix (v0 e2 e3 e4 h) rfl e (at3_2 _ _ _)
  have modP : ∀ (a b : Int) (h : Hv), 0 < b → modW (.int a) (.int b) h = some (.int (a % b), h) := fun a b h hb => by unfold modW; dsimp only; rw [if_pos hb]; rfl
  have fdP : ∀ (a b : Int) (h : Hv), 0 < b → b < 1073741824 → fdivW (.int a) (.int b) h = some (.int (a / b), h) := fun a b h h1 h2 => by unfold fdivW; dsimp only; rw [if_pos ⟨h1, h2⟩]; rfl
  have mulP : ∀ (a b : Int) (h : Hv), small64 a = true → mulW (.int a) (.int b) h = some (.int (a * b), h) := fun a b h h1 => by unfold mulW; dsimp only; rw [if_pos (by rw [h1]; rfl)]; rfl
  -- the run of the body gives the value
  suffices hs : ∃ r x' z' : Int, takeClo c env h = .ok (.rt (.int r)) (h.set i (.lst [.int x', .int y, .int z'])) ∧ 0 ≤ r ∧ r < n ∧ 0 ≤ x' ∧ x' < 10 ^ 300 ∧ z ≤ z' ∧ z' ≤ z + 1 by
    obtain ⟨r, x', z', e, hh⟩ := hs
    refine ⟨r, x', z', ?_, hh⟩
    show (((takeClo c env h).bind fun fl h' => flW fl h').bind fun w h' => .ok w (trim h.length (below h.length w) h') : Res W) = _
    rw [e]
    show Res.ok (W.int r) (trim _ _ _) = _
    rw [trim_same (by rw [List.length_set])]
  have test : evTb (evB gtW (pI 0) (kI 0)) env h = .ok (decide (0 < x)) h := r_Tb (r_B (p0 _ _ _ h x y z hi) rfl rfl)
  unfold takeClo
  by_cases hp : 0 < x
  · rw [decide_eq_true hp] at test
    have s1 : sAsg (gN 2) (evB modW (eI1 (pI 0)) (evV 1)) env h = .ok (.nx [some (.ref i), some (.int n), some (.int (x % n)), none, none]) h := by
      rw [r_asg (r_B (r_I1 (p0 _ _ _ h x y z hi)) (v1 _ _ _ h) (modP x n h (by omega))), trim_same rfl]; rfl
    have s2 : sSetI (evV 0) (kI 0) (evB fdivW (pI 0) (evV 1)) [some (.ref i), some (.int n), some (.int (x % n)), none, none] h = .ok (.nx [some (.ref i), some (.int n), some (.int (x % n)), none, none]) (h.set i (.lst [.int (x / n), .int y, .int z])) :=
      r_setI (m := 0) (r_B (p0 _ _ _ h x y z hi) (v1 _ _ _ h) (fdP x n h (by omega) (by omega))) (v0 _ _ _ h) rfl hi rfl
    have s3 : sRet (evV 2) [some (.ref i), some (.int n), some (.int (x % n)), none, none] (h.set i (.lst [.int (x / n), .int y, .int z])) = .ok (.rt (.int (x % n))) (h.set i (.lst [.int (x / n), .int y, .int z])) := r_ret rfl
    refine ⟨x % n, x / n, z, ?_, Int.emod_nonneg _ (by omega), Int.emod_lt_of_pos _ (by omega), Int.ediv_nonneg (by omega) (by omega), ?_, Int.le_refl _, by omega⟩
    · refine r_seqR ?_
      rw [r_ifT test, trim_same rfl, r_seq s1, r_seq s2, r_seqR s3]
    · exact Int.lt_of_le_of_lt (Int.ediv_le_self _ hx.1) hx.2
  · rw [decide_eq_false hp] at test
    have e0 : sIf (evTb (evB gtW (pI 0) (kI 0))) (sSeq (sAsg (gN 2) (evB modW (eI1 (pI 0)) (evV 1))) (sSeq (sSetI (evV 0) (kI 0) (evB fdivW (pI 0) (evV 1))) (sSeq (sRet (evV 2)) sPass))) sPass env h = .ok (.nx env) h := by
      rw [r_ifF test, trim_same rfl]; rfl
    rw [r_seq e0]
    have s1 : sSetI (evV 0) (kI 2) (evB addW (pI 2) (kI 1)) env h = .ok (.nx env) (h.set i (.lst [.int x, .int y, .int (z + 1)])) :=
      r_setI (m := 2) (r_B (p2 _ _ _ h x y z hi) rfl rfl) (v0 _ _ _ h) rfl hi rfl
    rw [r_seq s1]
    generalize hh : h.set i (.lst [.int x, .int y, .int (z + 1)]) = h1
    have hi1 : h1[i]? = some (.lst [.int x, .int y, .int (z + 1)]) := by rw [← hh, List.getElem?_set_self hl]
    have hl1 : h1.length = h.length := by rw [← hh, List.length_set]
    have hb1 : h1.all (O.below h1.length) = true := by rw [hl1, ← hh]; exact all_set hb rfl
    obtain ⟨q, hq1, hq2⟩ : ∃ q : Int, atI [W.int 2147483647, .int 2147483629, .int 2147483587, .int 2147483579, .int 2147483563] ((z + 1) % 5) = some (.int q) ∧ 0 < q ∧ q < 2147483648 := by
      have h1 := Int.emod_nonneg (z + 1) (show (5 : Int) ≠ 0 by decide)
      have h2 := Int.emod_lt_of_pos (z + 1) (show (0 : Int) < 5 by decide)
      generalize (z + 1) % 5 = r at h1 h2
      have : r = 0 ∨ r = 1 ∨ r = 2 ∨ r = 3 ∨ r = 4 := by omega
      rcases this with rfl | rfl | rfl | rfl | rfl
      · exact ⟨2147483647, rfl, by decide⟩
      · exact ⟨2147483629, rfl, by decide⟩
      · exact ⟨2147483587, rfl, by decide⟩
      · exact ⟨2147483579, rfl, by decide⟩
      · exact ⟨2147483563, rfl, by decide⟩
    have s2 : sAsg (gN 3) (evB ixW (evLst (evArgs [(false, kI 2147483647), (false, kI 2147483629), (false, kI 2147483587), (false, kI 2147483579), (false, kI 2147483563)])) (evB modW (eI1 (pI 2)) (kI 5))) env h1 = .ok (.nx [some (.ref i), some (.int n), none, some (.int q), none]) h1 := by
      have el : evLst (evArgs [(false, kI 2147483647), (false, kI 2147483629), (false, kI 2147483587), (false, kI 2147483579), (false, kI 2147483563)]) env h1 = .ok (.ref h1.length) (h1 ++ [.lst [W.int 2147483647, .int 2147483629, .int 2147483587, .int 2147483579, .int 2147483563]]) := rfl
      have hi2 : (h1 ++ [O.lst [W.int 2147483647, .int 2147483629, .int 2147483587, .int 2147483579, .int 2147483563]])[i]? = some (.lst [.int x, .int y, .int (z + 1)]) := by rw [List.getElem?_append_left (by omega)]; exact hi1
      have ei : evB ixW (evLst (evArgs [(false, kI 2147483647), (false, kI 2147483629), (false, kI 2147483587), (false, kI 2147483579), (false, kI 2147483563)])) (evB modW (eI1 (pI 2)) (kI 5)) env h1 = .ok (.int q) (h1 ++ [.lst [W.int 2147483647, .int 2147483629, .int 2147483587, .int 2147483579, .int 2147483563]]) := by
        refine r_B el (r_B (r_I1 (p2 _ _ _ _ x y (z + 1) hi2)) rfl (modP (z + 1) 5 _ (by decide))) ?_
        unfold ixW P.obj
        dsimp only
        rw [List.getElem?_append_right (Nat.le_refl _), Nat.sub_self]
        show P.of (atI [W.int 2147483647, .int 2147483629, .int 2147483587, .int 2147483579, .int 2147483563] ((z + 1) % 5)) _ = _
        rw [hq1]; rfl
      rw [r_asg ei, trim_ok]
      · rw [List.take_left]; rfl
      · show (Nat.blt i h1.length && true) = true
        rw [hl1, hil]; rfl
      · rw [List.take_left]; exact hb1
    rw [r_seq s2]
    have m1 : small64 c.a = true := small_of hc.a.1 (by have := hc.a.2; omega)
    have m2 : small64 (c.a * (z + 1)) = true := by
      have h1 := Int.mul_nonneg hc.a.1 (show 0 ≤ z + 1 by omega)
      have h2 : c.a * (z + 1) ≤ 1000000 * 5000 := Int.mul_le_mul (by have := hc.a.2; omega) (by omega) (by omega) (by decide)
      exact small_of h1 (by omega)
    have m3 : 0 ≤ c.a * (z + 1) * (z + 1) ∧ c.a * (z + 1) * (z + 1) ≤ 1000000 * 5000 * 5000 := by
      have h1 := Int.mul_nonneg hc.a.1 (show 0 ≤ z + 1 by omega)
      have h2 : c.a * (z + 1) ≤ 1000000 * 5000 := Int.mul_le_mul (by have := hc.a.2; omega) (by omega) (by omega) (by decide)
      exact ⟨Int.mul_nonneg h1 (by omega), Int.mul_le_mul h2 (by omega) (by omega) (by decide)⟩
    generalize hw : y + c.a * (z + 1) * (z + 1) + c.b = w at *
    have hw1 : 0 ≤ w ∧ w < 2 ^ 62 := by have := hc.b; omega
    have powP : powW (.int w) (.int 3) h1 = some (.int (w ^ 3), h1) := by
      unfold powW
      dsimp only
      rw [if_pos ⟨by decide, by decide, by omega⟩]; rfl
    have s3 : sAsg (gN 4) (evB modW (eI1 (evB powW (eI1 (evB addW (evB addW (pI 1) (evB mulW (evB mulW (kI c.a) (pI 2)) (pI 2))) (kI c.b))) (kI 3))) (evV 3)) [some (.ref i), some (.int n), none, some (.int q), none] h1 = .ok (.nx [some (.ref i), some (.int n), none, some (.int q), some (.int (w ^ 3 % q))]) h1 := by
      have e1 := r_B (f := addW) (r_B (f := addW) (p1 none (some (.int q)) none h1 x y (z + 1) hi1) (r_B (f := mulW) (r_B (f := mulW) (r_C (.int c.a) [some (.ref i), some (.int n), none, some (.int q), none] h1) (p2 _ _ _ h1 x y (z + 1) hi1) (mulP _ _ h1 m1)) (p2 _ _ _ h1 x y (z + 1) hi1) (mulP _ _ h1 m2)) rfl) (r_C (.int c.b) _ h1) (z := .int w) (h3 := h1) (by rw [← hw]; rfl)
      rw [r_asg (r_B (r_I1 (r_B (r_I1 e1) (r_C (.int 3) _ h1) powP)) (show evV 3 _ h1 = .ok (.int q) h1 from rfl) (modP _ q h1 hq2.1)), trim_same rfl]; rfl
    rw [r_seq s3]
    generalize hv : w ^ 3 % q = v
    have hv1 : 0 ≤ v ∧ v < 2147483648 := by
      rw [← hv]
      have := Int.emod_nonneg (w ^ 3) (show q ≠ 0 by omega)
      have := Int.emod_lt_of_pos (w ^ 3) hq2.1
      omega
    have m4 : small64 v = true := small_of hv1.1 (by omega)
    have m5 : small64 c.s = true := small_of hc.s.1 (by have := hc.s.2; omega)
    have e4 : evB modW (eI1 (evB fdivW (evB mulW (evV 4) (evB addW (evB modW (eI1 (evV 4)) (kI c.m)) (evB mulW (kI c.s) (pI 2)))) (kI c.d))) (evV 1) [some (.ref i), some (.int n), none, some (.int q), some (.int v)] h1 = .ok (.int (v * (v % c.m + c.s * (z + 1)) / c.d % n)) h1 :=
      r_B (r_I1 (r_B (r_B (show evV 4 _ h1 = .ok (.int v) h1 from rfl) (r_B (r_B (r_I1 (show evV 4 _ h1 = .ok (.int v) h1 from rfl)) (r_C (.int c.m) _ h1) (modP v c.m h1 hc.m.1)) (r_B (r_C (.int c.s) _ h1) (p2 _ _ _ h1 x y (z + 1) hi1) (mulP _ _ h1 m5)) rfl) (mulP _ _ h1 m4)) (r_C (.int c.d) _ h1) (fdP _ _ h1 hc.d.1 (by have := hc.d.2; omega)))) (v1 _ _ _ h1) (modP _ n h1 (by omega))
    refine ⟨v * (v % c.m + c.s * (z + 1)) / c.d % n, x, z + 1, ?_, Int.emod_nonneg _ (by omega), Int.emod_lt_of_pos _ (by omega), hx.1, hx.2, by omega, Int.le_refl _⟩
    rw [r_seqR (r_ret e4), hh]
end
end Ev
set_option Elab.async false
set_option linter.all false
set_option maxRecDepth 100000
namespace Ev
open PySem L2 PySem.Spec PyProof.Rows
noncomputable section
/-- the constants of a pot -/
structure Pw where
  a : Int
  b : Int
  c : Int
  d : Int
  e : Int
structure Pw.Ok (q : Pw) : Prop where
  a : 0 ≤ q.a ∧ q.a < 1000000
  b : 0 ≤ q.b ∧ q.b < 1000000
  c : 0 ≤ q.c ∧ q.c < 1000000
  d : 0 ≤ q.d ∧ q.d < 1000000
  e : 0 ≤ q.e ∧ q.e < 1000000
abbrev eA1 (e : EE) : EE := evCallP absP (evArgs [(false, e)])
def potClo (c : Pw) : ES :=
  sSeq (sAsg (gN 2) (evIf (evTb (evB ltW (evV 1) (evCallM lenM (evArgs [(false, evV 0)])))) (evB ixW (evV 0) (evV 1)) (evB addW (evB mulW (kI c.a) (evV 1)) (kI c.b))))
  (sSeq (sAsg (gN 3) (evB mulW (evB modW (eI1 (eA1 (evV 2))) (evB powW (evB powW (kI 10) (kI 60)) (kI 5))) (eI1 (evB geW (eA1 (evV 2)) (evB powW (kI 10) (kI 18))))))
  (sSeq (sRet (evLst (evArgs [(false, evV 3), (false, evB modW (eI1 (evB addW (evB addW (evB mulW (evB modW (eI1 (evV 2)) (kI 2305843009213693951)) (kI c.c)) (evB mulW (evB mulW (kI c.d) (evV 1)) (evV 1))) (kI c.e))) (kI 2305843009213693921)), (false, kI 0)]))) sPass))
theorem r_A1 {e : EE} {env : En} {h h1 : Hv} {i : Int} (ea : e env h = .ok (.int i) h1) : eA1 e env h = .ok (.int (if i < 0 then -i else i)) h1 := by
  show ((((e env h).bind fun x h' => .ok [x] h').bind fun ws h' => (absP ws).up h') : Res W) = _
  rw [ea]; rfl
theorem r_I1b {e : EE} {env : En} {h h1 : Hv} {b : Bool} (ea : e env h = .ok (.bl b) h1) : eI1 e env h = .ok (.int (if b then 1 else 0)) h1 := by
  show ((((e env h).bind fun x h' => .ok [x] h').bind fun ws h' => (intP ws).up h') : Res W) = _
  rw [ea]; rfl
theorem r_IfT {c : ET} {a b : EE} {env : En} {h h1 : Hv} (ec : c env h = .ok true h1) : evIf c a b env h = a env h1 := by
  show ((c env h).bind fun t h' => (match t with | true => a env | false => b env : M W) h') = _
  rw [ec]; rfl
theorem r_IfF {c : ET} {a b : EE} {env : En} {h h1 : Hv} (ec : c env h = .ok false h1) : evIf c a b env h = b env h1 := by
  show ((c env h).bind fun t h' => (match t with | true => a env | false => b env : M W) h') = _
  rw [ec]; rfl
theorem pow1 (h : Hv) : powW (.int 10) (.int 60) h = some (.int (10 ^ 60), h) := by
  unfold powW
  dsimp only
  rw [if_pos (by decide +kernel)]; rfl
theorem pow2 (h : Hv) : powW (.int (10 ^ 60)) (.int 5) h = some (.int (10 ^ 300), h) := by
  unfold powW
  dsimp only
  rw [if_neg (by decide +kernel), if_pos (by decide +kernel)]
  show some (W.int ((10 ^ 60) ^ 5), h) = _
  rw [show ((10 : Int) ^ 60) ^ 5 = 10 ^ 300 by decide +kernel]
theorem pow3 (h : Hv) : powW (.int 10) (.int 18) h = some (.int (10 ^ 18), h) := by
  unfold powW
  dsimp only
  rw [if_pos (by decide +kernel)]; rfl
theorem pot_run {c : Pw} (hc : c.Ok) {h : Hv} {ns : List Int} {j : Int} (hj : 0 ≤ j ∧ j < 64) :
    ∃ x y : Int, runF (potClo c) 4 [.rol (ns.map W.int), .int j] h = .ok (.ref h.length) (h ++ [.lst [.int x, .int y, .int 0]]) ∧ 0 ≤ x ∧ x < 10 ^ 300 ∧ 0 ≤ y ∧ y < 2 ^ 61 := by
  have modP : ∀ (a b : Int) (h : Hv), 0 < b → modW (.int a) (.int b) h = some (.int (a % b), h) := fun a b h hb => by unfold modW; dsimp only; rw [if_pos hb]; rfl
  have mulP : ∀ (a b : Int) (h : Hv), small64 a = true → mulW (.int a) (.int b) h = some (.int (a * b), h) := fun a b h h1 => by unfold mulW; dsimp only; rw [if_pos (by rw [h1]; rfl)]; rfl
  have mulQ : ∀ (a b : Int) (h : Hv), small64 b = true → mulW (.int a) (.int b) h = some (.int (a * b), h) := fun a b h h1 => by unfold mulW; dsimp only; rw [if_pos (by rw [h1, Bool.or_true])]; rfl
  let E : Option W → Option W → En := fun e2 e3 => [some (.rol (ns.map W.int)), some (.int j), e2, e3]
  have v0 : ∀ e2 e3 h, evV 0 (E e2 e3) h = .ok (.rol (ns.map W.int)) h := fun _ _ h => rfl
  have v1 : ∀ e2 e3 h, evV 1 (E e2 e3) h = .ok (.int j) h := fun _ _ h => rfl
  -- the cell
  obtain ⟨cell, hcell⟩ : ∃ cell : Int, evIf (evTb (evB ltW (evV 1) (evCallM lenM (evArgs [(false, evV 0)])))) (evB ixW (evV 0) (evV 1)) (evB addW (evB mulW (kI c.a) (evV 1)) (kI c.b)) (E none none) h = .ok (.int cell) h := by
    have el : evCallM lenM (evArgs [(false, evV 0)]) (E none none) h = .ok (.int (ns.map W.int).length) h := rfl
    have test : evTb (evB ltW (evV 1) (evCallM lenM (evArgs [(false, evV 0)]))) (E none none) h = .ok (decide (j < ((ns.map W.int).length : Nat))) h := r_Tb (r_B (v1 _ _ h) el rfl)
    by_cases hp : j < ((ns.map W.int).length : Nat)
    · rw [decide_eq_true hp] at test
      obtain ⟨m, hm⟩ := Int.eq_ofNat_of_zero_le hj.1
      have hm' : m < ns.length := by rw [List.length_map] at hp; omega
      refine ⟨ns[m], ?_⟩
      rw [r_IfT test]
      refine r_B (v0 _ _ h) (v1 _ _ h) ?_
      show P.of (atI (ns.map W.int) j) h = _
      have : atI (ns.map W.int) j = some (.int ns[m]) := by
        unfold atI ixN
        rw [if_pos hj.1, if_pos hp]
        show (ns.map W.int)[j.toNat]? = _
        rw [hm, List.getElem?_map]
        show (ns[m]?).map W.int = _
        rw [List.getElem?_eq_getElem hm']; rfl
      rw [this]; rfl
    · rw [decide_eq_false hp] at test
      refine ⟨c.a * j + c.b, ?_⟩
      rw [r_IfF test]
      exact r_B (r_B rfl (v1 _ _ h) (mulP _ _ h (small_of hc.a.1 (by have := hc.a.2; omega)))) rfl rfl
  have s1 : sAsg (gN 2) (evIf (evTb (evB ltW (evV 1) (evCallM lenM (evArgs [(false, evV 0)])))) (evB ixW (evV 0) (evV 1)) (evB addW (evB mulW (kI c.a) (evV 1)) (kI c.b))) (E none none) h = .ok (.nx (E (some (.int cell)) none)) h := by
    rw [r_asg hcell, trim_same rfl]; rfl
  -- the own digits
  generalize hm : (if cell < 0 then -cell else cell) = m at *
  have hm0 : 0 ≤ m := by rw [← hm]; split <;> omega
  have v2 : ∀ e3 h, evV 2 (E (some (.int cell)) e3) h = .ok (.int cell) h := fun _ h => rfl
  obtain ⟨x, hx, x1, x2⟩ : ∃ x : Int, evB mulW (evB modW (eI1 (eA1 (evV 2))) (evB powW (evB powW (kI 10) (kI 60)) (kI 5))) (eI1 (evB geW (eA1 (evV 2)) (evB powW (kI 10) (kI 18)))) (E (some (.int cell)) none) h = .ok (.int x) h ∧ 0 ≤ x ∧ x < 10 ^ 300 := by
    have ea : eA1 (evV 2) (E (some (.int cell)) none) h = .ok (.int m) h := by rw [r_A1 (v2 none h), hm]
    have eb := r_B (f := modW) (r_I1 ea) (r_B (f := powW) (r_B (f := powW) (r_C (.int 10) (E (some (.int cell)) none) h) (r_C (.int 60) _ h) (pow1 h)) (r_C (.int 5) _ h) (pow2 h)) (modP m _ h (by decide +kernel))
    have ec := r_I1b (r_B (f := geW) ea (r_B (f := powW) (r_C (.int 10) (E (some (.int cell)) none) h) (r_C (.int 18) _ h) (pow3 h)) rfl)
    have h1 := Int.emod_nonneg m (show (10 : Int) ^ 300 ≠ 0 by decide +kernel)
    have h2 := Int.emod_lt_of_pos m (show (0 : Int) < 10 ^ 300 by decide +kernel)
    refine ⟨_, r_B eb ec (mulQ _ _ h ?_), ?_⟩
    · cases decide ((10 : Int) ^ 18 ≤ m) <;> decide +kernel
    · cases decide ((10 : Int) ^ 18 ≤ m) with
      | true => simp only [if_true, Int.mul_one]; exact ⟨h1, h2⟩
      | false => simp only [Bool.false_eq_true, if_false, Int.mul_zero]; decide +kernel
  have s2 : sAsg (gN 3) (evB mulW (evB modW (eI1 (eA1 (evV 2))) (evB powW (evB powW (kI 10) (kI 60)) (kI 5))) (eI1 (evB geW (eA1 (evV 2)) (evB powW (kI 10) (kI 18))))) (E (some (.int cell)) none) h = .ok (.nx (E (some (.int cell)) (some (.int x)))) h := by
    rw [r_asg hx, trim_same rfl]; rfl
  -- the mixed number
  have h1 := Int.emod_nonneg cell (show (2305843009213693951 : Int) ≠ 0 by decide)
  have h2 := Int.emod_lt_of_pos cell (show (0 : Int) < 2305843009213693951 by decide)
  have m1 : small64 (cell % 2305843009213693951) = true := small_of h1 (by omega)
  have m2 : small64 c.d = true := small_of hc.d.1 (by have := hc.d.2; omega)
  have m3 : small64 (c.d * j) = true := by
    have a1 := Int.mul_nonneg hc.d.1 hj.1
    have a2 : c.d * j ≤ 1000000 * 64 := Int.mul_le_mul (by have := hc.d.2; omega) (by omega) hj.1 (by decide)
    exact small_of a1 (by omega)
  let y : Int := (cell % 2305843009213693951 * c.c + c.d * j * j + c.e) % 2305843009213693921
  have ey : evB modW (eI1 (evB addW (evB addW (evB mulW (evB modW (eI1 (evV 2)) (kI 2305843009213693951)) (kI c.c)) (evB mulW (evB mulW (kI c.d) (evV 1)) (evV 1))) (kI c.e))) (kI 2305843009213693921) (E (some (.int cell)) (some (.int x))) h = .ok (.int y) h :=
    r_B (r_I1 (r_B (r_B (r_B (r_B (r_I1 (v2 _ h)) (r_C _ _ h) (modP _ _ h (by decide))) (r_C _ _ h) (mulP _ _ h m1)) (r_B (r_B (r_C _ _ h) (v1 _ _ h) (mulP _ _ h m2)) (v1 _ _ h) (mulP _ _ h m3)) rfl) (r_C _ _ h) rfl)) (r_C _ _ h) (modP _ _ h (by decide))
  have y1 : 0 ≤ y := Int.emod_nonneg _ (by decide)
  have y2 : y < 2305843009213693921 := Int.emod_lt_of_pos _ (by decide)
  refine ⟨x, y, ?_, x1, x2, y1, by omega⟩
  have s3 : sRet (evLst (evArgs [(false, evV 3), (false, evB modW (eI1 (evB addW (evB addW (evB mulW (evB modW (eI1 (evV 2)) (kI 2305843009213693951)) (kI c.c)) (evB mulW (evB mulW (kI c.d) (evV 1)) (evV 1))) (kI c.e))) (kI 2305843009213693921)), (false, kI 0)])) (E (some (.int cell)) (some (.int x))) h = .ok (.rt (.ref h.length)) (h ++ [.lst [.int x, .int y, .int 0]]) := by
    refine r_ret ?_
    generalize evB modW _ _ = eyy at ey ⊢
    show ((((evV 3 (E (some (.int cell)) (some (.int x))) h).bind fun w h' => ((eyy (E (some (.int cell)) (some (.int x))) h').bind fun w2 h' => ((kI 0 (E (some (.int cell)) (some (.int x))) h').bind fun w3 h' => .ok [w3] h').bind fun ws h' => .ok (w2 :: ws) h').bind fun ws h' => .ok (w :: ws) h').bind fun ws h' => (P.iff (decide (ws.length ≤ sizeLine)) (P.new (.lst ws))).up h') : Res W) = _
    rw [show evV 3 (E (some (.int cell)) (some (.int x))) h = .ok (.int x) h from rfl, ok_bind, ey]
    rfl
  show (((potClo c (E none none) h).bind fun fl h' => flW fl h').bind fun w h' => .ok w (trim h.length (below h.length w) h') : Res W) = _
  have e : potClo c (E none none) h = .ok (.rt (.ref h.length)) (h ++ [.lst [.int x, .int y, .int 0]]) := by
    unfold potClo
    rw [r_seq s1, r_seq s2, r_seqR s3]
  rw [e]
  show Res.ok (W.ref h.length) (trim h.length (below h.length (.ref h.length)) _) = _
  have : below h.length (.ref h.length) = false := by
    show Nat.blt h.length h.length = false
    have : ¬ h.length < h.length := Nat.lt_irrefl _
    cases q : Nat.blt h.length h.length with
    | false => rfl
    | true => exact absurd (Nat.le_of_ble_eq_true q) this
  rw [this]
  unfold trim
  rw [if_neg (by simp), if_neg (by simp)]
end
end Ev
set_option Elab.async false
set_option linter.all false
set_option maxRecDepth 100000
namespace Ev
open PySem L2 PySem.Spec PyProof.Rows
noncomputable section
/-! ### draws in the place of the law's own two defs -/
def decQ : Nat → Nat → Option O
  | q, r + 1 => some (.pot q r)
  | q + 1, 0 => some (.pot q 63)
  | 0, 0 => none
def argT : List W → Option (Nat × Int)
  | [.ref i, .int n] => some (i, n)
  | _ => none
theorem argT_ok {ws : List W} {i : Nat} {n : Int} (e : argT ws = some (i, n)) : ws = [.ref i, .int n] := by
  unfold argT at e
  split at e
  · cases e; rfl
  · cases e
def potO : Option O → Option O
  | some (.pot q r) => decQ q r
  | _ => none
theorem potO_ok {x : Option O} {o : O} (e : potO x = some o) : ∃ q r, x = some (.pot q r) ∧ decQ q r = some o := by
  unfold potO at e
  split at e
  · exact ⟨_, _, rfl, e⟩
  · cases e
def takeM (ws : List W) : M W := fun h => match argT ws with
  | some (i, n) => match decide (1 ≤ n) && decide (n < 1000000) with
    | true => match potO h[i]? with
      | some o => .ask n.toNat fun j => .ok (.int j) (h.set i o)
      | none => .err
    | false => .err
  | none => .err
def argP : List W → Option Int
  | [.scr, .int j] => some j
  | _ => none
theorem argP_ok {ws : List W} {n : Int} (e : argP ws = some n) : ws = [.scr, .int n] := by
  unfold argP at e
  split at e
  · cases e; rfl
  · cases e
def potM (ws : List W) : M W := fun h => match argP ws with
  | some j => match decide (0 ≤ j) && decide (j < 64) with
    | true => .ok (.ref h.length) (h ++ [.pot 62 63])
    | false => .err
  | none => .err
section
variable {k : Kx} {ρ : List Addr} {h : Hv} {H : Hp}
mutual
theorem RW.blw : ∀ {w : W} {v : V}, k.RW ρ H w v → below ρ.length w = true
  | _, _, .non => rfl
  | _, _, .bl _ => rfl
  | _, _, .int _ => rfl
  | _, _, .str _ => rfl
  | _, _, .tup _ r => by show belows _ _ = true; exact RWs.blw r
  | _, _, .rol _ r => by show belows _ _ = true; exact RWs.blw r
  | _, _, .ref e => Nat.ble_eq_true_of_le (List.getElem?_eq_some_iff.mp e).1
  | _, _, .ty _ => rfl
  | _, _, .cls _ => rfl
  | _, _, .atm => rfl
  | _, _, .scr _ => rfl
theorem RWs.blw : ∀ {ws : List W} {vs : List V}, k.RWs ρ H ws vs → belows ρ.length ws = true
  | _, _, .nil => rfl
  | _, _, .cons r s => by
    show (Ev.below _ _ && belows _ _) = true
    rw [RW.blw r, RWs.blw s]; rfl
end
theorem HR.below (hr : k.HR ρ h H) : h.all (O.below h.length) = true := by
  rw [List.all_eq_true]
  intro o ho
  obtain ⟨i, hi, e⟩ := List.mem_iff_getElem.mp ho
  have hi' : i < ρ.length := by rw [hr.len]; exact hi
  have q := hr.obj i ρ[i] o (List.getElem?_eq_getElem hi') (by rw [List.getElem?_eq_getElem hi, e])
  rw [← hr.len]
  cases o with
  | lst xs => obtain ⟨vs, _, s⟩ := q; exact RWs.blw s
  | dct kvs => obtain ⟨kv, _, _, s⟩ := q; exact RWs.blw s
  | ins c fs => obtain ⟨_, dx, fs', _, _, s⟩ := q; exact RWs.blw s
  | xdv w => obtain ⟨v, _, s⟩ := q; exact RW.blw s
  | exo c d => obtain ⟨_, dx, z, _⟩ := q; exact Nat.ble_eq_true_of_le (List.getElem?_eq_some_iff.mp z).1
  | pot q r => rfl
/-- an object read otherwise -/
theorem HR.swap (hr : k.HR ρ h H) {i : Nat} {o : O} (ho : ∀ a, ρ[i]? = some a → RO k.T k.K k.ca ρ H a o) : k.HR ρ (h.set i o) H := by
  refine ⟨by rw [List.length_set]; exact hr.len, hr.nd, fun j b ob e1 e2 => ?_, hr.base⟩
  by_cases hj : i = j
  · subst hj
    have hi : i < h.length := by rw [← hr.len]; exact (List.getElem?_eq_some_iff.mp e1).1
    rw [List.getElem?_set_self hi] at e2
    cases e2
    exact ho b e1
  · rw [List.getElem?_set_ne hj] at e2
    exact hr.obj j b ob e1 e2
theorem Go.swap {ρ' : List Addr} {H' : Hp} (g : k.Go ρ H ρ' h H') {i : Nat} {o : O} (ho : ∀ a, ρ'[i]? = some a → RO k.T k.K k.ca ρ' H' a o) : k.Go ρ H ρ' (h.set i o) H' := ⟨g.hr.swap ho, g.pre, g.new, g.frame⟩
end
section
variable {P : Program} {w : World} {K : PySem.W.Frag} {mg : Str → Option Value} {base : Heap} {CX : CXT} {n : Nat} {f : Addr} {fd : FuncData} {ps : List Str} {k : Kx}
theorem fn_imp {sp sp' : Sp} (F : FnOk P w K mg base CX n f fd ps sp) (h : ∀ vs H Q E, sp' vs H Q E → sp vs H Q E) : FnOk P w K mg base CX n f fd ps sp' := fn_any fun vs H Q E z => ⟨sp, F, h vs H Q E z⟩
theorem ints3 {ρ : List Addr} {H : Hp} {x y z : Int} {vs : List V} (r : k.RWs ρ H [.int x, .int y, .int z] vs) : vs = [.int x, .int y, .int z] := by
  cases r with
  | cons a r => cases r with
    | cons b r => cases r with
      | cons c r => cases a; cases b; cases c; cases r; rfl
theorem decQ_ok {q r : Nat} {o : O} (e : decQ q r = some o) : ∃ q' r', o = .pot q' r' ∧ 64 * q' + r' + 1 = 64 * q + r := by
  unfold decQ at e
  split at e
  · cases e; exact ⟨_, _, rfl, by omega⟩
  · cases e; exact ⟨_, _, rfl, by omega⟩
  · cases e
theorem RW.refI {ρ : List Addr} {H : Hp} {i : Nat} {v : V} (r : k.RW ρ H (.ref i) v) : ∃ a, v = .ref a ∧ ρ[i]? = some a := by
  cases r with
  | ref e => exact ⟨_, rfl, e⟩
theorem RW.scrI {ρ : List Addr} {H : Hp} {v : V} (r : k.RW ρ H .scr v) : ∃ a, v = .ref a ∧ RoL k.K H a (k.ca.ns.map V.int) := by
  cases r with
  | scr e => exact ⟨_, rfl, e⟩
theorem take_ok {c : Dw} (hc : c.Ok) (F : FnOk P w K mg base CX n f fd ps (spM k 2 (runF (takeClo c) 5))) : FnOk P w K mg base CX n f fd ps (spM k 2 takeM) := by
  refine fn_imp F fun vs H Q E ⟨hl, ρ, h, ws, hr, rs, t⟩ => ?_
  unfold Tm takeM at t
  cases ea : argT ws with
  | none => rw [ea] at t; exact False.elim t
  | some im =>
    obtain ⟨i, m⟩ := im
    rw [ea] at t
    have := argT_ok ea
    subst this
    dsimp only at t
    cases hm : decide (1 ≤ m) && decide (m < 1000000) with
    | false => rw [hm] at t; exact False.elim t
    | true =>
      rw [hm] at t
      obtain ⟨m1, m2⟩ := Bool.and_eq_true_iff.mp hm
      have m1 := of_decide_eq_true m1
      have m2 := of_decide_eq_true m2
      dsimp only at t
      cases eo : potO h[i]? with
      | none => rw [eo] at t; exact False.elim t
      | some o =>
        rw [eo] at t
        obtain ⟨q, r, ei, eo⟩ := potO_ok eo
        obtain ⟨q', r', rfl, eq⟩ := decQ_ok eo
        obtain ⟨v1, v2, rfl, r1, r2⟩ := rs.two
        obtain ⟨a, rfl, eb⟩ := RW.refI r1
        obtain ⟨x, y, z, hH, x1, x2, y1, y2, z1, z2⟩ := hr.obj i a _ eb ei
        have hr2 : k.HR ρ (h.set i (.lst [.int x, .int y, .int z])) H := hr.swap fun b eb' => by
          rw [eb] at eb'; cases eb'
          exact ⟨_, hH, .cons (.int x) (.cons (.int y) (.cons (.int z) .nil))⟩
        have hi : i < h.length := (List.getElem?_eq_some_iff.mp ei).1
        obtain ⟨r0, x', z', e, a1, a2, b1, b2, c1, c2⟩ := take_run hc hr2.below (List.getElem?_set_self hi) ⟨m1, m2⟩ ⟨x1, x2⟩ ⟨y1, y2⟩ ⟨z1, by omega⟩
        refine ⟨hl, ρ, _, _, hr2, rs, ?_⟩
        unfold Tm
        rw [e, List.set_set]
        intro ρ' H' g
        have t1 := t r0.toNat (by omega)
        have e0 : ((r0.toNat : Nat) : Int) = r0 := by omega
        dsimp only at t1
        rw [e0] at t1
        have g2 := g.swap (i := i) (o := .pot q' r') fun b eb => by
          obtain ⟨vs', q1, q2⟩ := g.hr.obj i b _ eb (List.getElem?_set_self hi)
          rw [ints3 q2] at q1
          exact ⟨x', y, z', q1, b1, b2, y1, y2, by omega, by omega⟩
        rw [List.set_set] at g2
        exact t1 ρ' H' g2
theorem pot_ok {c : Pw} (hc : c.Ok) (F : FnOk P w K mg base CX n f fd ps (spM k 2 (runF (potClo c) 4))) : FnOk P w K mg base CX n f fd ps (spM k 2 potM) := by
  refine fn_imp F fun vs H Q E ⟨hl, ρ, h, ws, hr, rs, t⟩ => ?_
  unfold Tm potM at t
  cases ea : argP ws with
  | none => rw [ea] at t; exact False.elim t
  | some j =>
    rw [ea] at t
    have := argP_ok ea
    subst this
    dsimp only at t
    cases hm : decide (0 ≤ j) && decide (j < 64) with
    | false => rw [hm] at t; exact False.elim t
    | true =>
      rw [hm] at t
      obtain ⟨m1, m2⟩ := Bool.and_eq_true_iff.mp hm
      have m1 := of_decide_eq_true m1
      have m2 := of_decide_eq_true m2
      obtain ⟨v1, v2, rfl, r1, r2⟩ := rs.two
      obtain ⟨a, rfl, st⟩ := RW.scrI r1
      have r3 : k.RW ρ H (.rol (k.ca.ns.map W.int)) (.ref a) := .rol st (ints_rws k.ca.ns)
      obtain ⟨x, y, e, x1, x2, y1, y2⟩ := pot_run hc (h := h) (ns := k.ca.ns) ⟨m1, m2⟩
      refine ⟨hl, ρ, h, _, hr, .cons r3 (.cons r2 .nil), ?_⟩
      unfold Tm
      rw [e]
      intro ρ' H' g
      have g2 := g.swap (i := h.length) (o := .pot 62 63) fun b eb => by
        obtain ⟨vs', q1, q2⟩ := g.hr.obj h.length b (.lst [.int x, .int y, .int 0]) eb (by simp)
        rw [ints3 q2] at q1
        exact ⟨x, y, 0, q1, x1, x2, y1, y2, Int.le_refl _, by omega⟩
      rw [show (h ++ [O.lst [W.int x, .int y, .int 0]]).set h.length (.pot 62 63) = h ++ [.pot 62 63] by simp] at g2
      exact t ρ' H' g2
end
/-- the table of the draws -/
def drawF (jT jP : Nat) (j : Nat) : List W → M W := match Nat.beq j jT with
  | true => takeM
  | false => match Nat.beq j jP with
    | true => potM
    | false => fun _ => M.err
def drawO (jT jP : Nat) (j : Nat) : Bool := Nat.beq j jT || Nat.beq j jP
section
variable {p : Pg} {A : At} {w : World} {K : PySem.W.Frag} {mg : Str → Option Value} {base h : Heap}
/-- what the law's text must be for it -/
structure Drw (p : Pg) (jT jP : Nat) (dT dP : He.DefD × List Str) (cT : Dw) (cP : Pw) : Prop where
  ft : p.fn[jT]? = some dT
  fp : p.fn[jP]? = some dP
  jt : p.jn jT = false
  jp : p.jn jP = false
  nt : dT.2.length = 5
  np : dP.2.length = 4
  pt : (par dT.1).length = 2
  pp : (par dP.1).length = 2
  ct : ∀ F, esB p.g F ⟨dT.2, dT.1.scope, dT.1.body, none⟩ = takeClo cT
  cp : ∀ F, esB p.g F ⟨dP.2, dP.1.scope, dP.1.body, none⟩ = potClo cP
  ot : cT.Ok
  op : cP.Ok
theorem draws {jT jP : Nat} {dT dP : He.DefD × List Str} {cT : Dw} {cP : Pw} (D : Drw p jT jP dT dP cT cP) (hp : p.plainCk = true) (hk : p.ck K = true) (X : K.In h) (G : h.Ns mainGlobals mg) (S : Funs p K) (AO : AtOk p K A 19 w mg base) (hn : A.ns.length < 64) : FnAll p K A (drawF jT jP) 21 w mg base := fun j d hj => by
  have all := fn_all (ov := fun _ => false) (Nat.le_refl 19) hp hk X G (fn_none (A := A) (w := w) (mg := mg) (base := base) S 19) AO hn 1
  obtain ⟨fd, FD, ok⟩ := all j d hj
  refine ⟨fd, FD, ?_⟩
  unfold drawF
  cases e1 : Nat.beq j jT with
  | true =>
    have := Nat.eq_of_beq_eq_true e1
    subst this
    rw [D.ft] at hj
    cases hj
    have e : fnT p.g p.bs (fun _ _ => M.err) (fun _ => false) 1 j = runF (takeClo cT) 5 := by
      show (match p.bs j with
        | some b => runF (esB p.g (fnT p.g p.bs (fun _ _ => M.err) (fun _ => false) 0) b) b.N.length
        | none => fun _ => M.err) = _
      have hb : p.bs j = some ⟨dT.2, dT.1.scope, dT.1.body, none⟩ := by unfold Pg.bs Pg.jnOf; rw [D.ft, D.jt]; rfl
      rw [hb]
      dsimp only
      rw [D.ct, D.nt]
    rw [e, D.pt] at ok
    rw [D.pt]
    exact take_ok D.ot ok
  | false =>
    dsimp only
    cases e2 : Nat.beq j jP with
    | true =>
      have := Nat.eq_of_beq_eq_true e2
      subst this
      rw [D.fp] at hj
      cases hj
      have e : fnT p.g p.bs (fun _ _ => M.err) (fun _ => false) 1 j = runF (potClo cP) 4 := by
        show (match p.bs j with
          | some b => runF (esB p.g (fnT p.g p.bs (fun _ _ => M.err) (fun _ => false) 0) b) b.N.length
          | none => fun _ => M.err) = _
        have hb : p.bs j = some ⟨dP.2, dP.1.scope, dP.1.body, none⟩ := by unfold Pg.bs Pg.jnOf; rw [D.fp, D.jp]; rfl
        rw [hb]
        dsimp only
        rw [D.cp, D.np]
      rw [e, D.pp] at ok
      rw [D.pp]
      exact pot_ok D.op ok
    | false => exact fn_err (k := p.k K A) rfl
/-- None equals None -/
theorem at0 {l : Nat} {ns : List Int} : AtOk p K (A0 ns) l w mg base := fun X h1 h2 h3 h4 h5 h6 h7 h8 => by
  intro pins s σ H x y v u Q I rx ry ⟨e1, e2, _, q⟩
  subst e1 e2
  refine op_eq pins s σ H _ _ v u Q I rx ry ⟨rfl, ?_⟩
  exact q H fun b o h => h
end
end
end Ev
set_option Elab.async false
set_option linter.all false
set_option maxRecDepth 100000
namespace Ev
open PySem L2 PySem.Spec PyProof.Rows
noncomputable section
/-! ### a def of one value that only asks whether the value equals itself -/
def selfB (w : W) (h : Hv) : Bool := match eqX w w h with
  | some (.bl true, _) => true
  | _ => false
theorem eqX_same {a b : W} {h : Hv} {z : W × Hv} (e : eqX a b h = some z) : z.2 = h := by
  unfold eqX at e
  split at e
  · cases e; rfl
  · split at e
    · cases e; rfl
    · split at e
      · cases e; rfl
      · cases e
theorem selfB_ok {w : W} {h : Hv} (e : selfB w h = true) : eqX w w h = some (.bl true, h) := by
  unfold selfB at e
  split at e
  · rename_i h' q
    have := eqX_same q
    dsimp only at this
    rw [q, this]
  · cases e
def arg1 : List W → Option W
  | [w] => some w
  | _ => none
theorem arg1_ok {ws : List W} {w : W} (e : arg1 ws = some w) : ws = [w] := by
  unfold arg1 at e
  split at e
  · cases e; rfl
  · cases e
/-- m: the def itself; bk: what else is known to give True -/
def selfM (bk : W → Hv → Bool) (m : List W → M W) (ws : List W) : M W := fun h => match arg1 ws with
  | some w => match selfB w h with
    | true => .ok (.bl true) h
    | false => match bk w h with
      | true => .ok (.bl true) h
      | false => m [w] h
  | none => .err
section
variable {p : Pg} {w : World} {K : PySem.W.Frag} {mg : Str → Option Value} {base h : Heap} {ns : List Int}
theorem self_ok {F : Nat → List W → M W} {bk : W → Hv → Bool} {l j : Nat} {d : He.DefD × List Str} (hp : p.plainCk = true) (hk : p.ck K = true) (X : K.In h) (G : h.Ns mainGlobals mg) (S : Funs p K) (hn : ns.length < 64)
    (all : ∀ A : At, A.ns.length < 64 → AtOk p K A 19 w mg base → FnAll p K A F l w mg base) (hj : p.fn[j]? = some d) (h1 : (par d.1).length = 1) (hm : F j [.atm] [] = .ok (.bl true) []) (hbk : ∀ w h, bk w h = true → F j [w] h = .ok (.bl true) h) :
    ∃ fd, FunD K d.1.name d.1.qual d.1.params d.1.body d.1.scope (d.1.dvs K) (d.1.kws K) (He.fAd K d.1.at_) fd ∧ FnOk p.P w K mg base (CX p.P w) l (He.fAd K d.1.at_) fd (par d.1) (spM (p.k K (A0 ns)) (par d.1).length (selfM bk (F j))) := by
  obtain ⟨fd, FD⟩ := S j d hj
  have same : ∀ {fd' : FuncData}, FunD K d.1.name d.1.qual d.1.params d.1.body d.1.scope (d.1.dvs K) (d.1.kws K) (He.fAd K d.1.at_) fd' → fd' = fd := fun FD' => by
    obtain ⟨_, _, _, _, _, _, _, _, _, _, _, lk, _⟩ := FD.ex
    obtain ⟨_, _, _, _, _, _, _, _, _, _, _, lk', _⟩ := FD'.ex
    rw [lk] at lk'
    injection lk' with z
    injection z with _ _ z
    injection z with z
    exact z.symm
  have GL := glob_of hp hk X G (fn_none (A := A0 ns) (w := w) (mg := mg) (base := base) S 19) at0 hn
  refine ⟨fd, FD, fn_any fun vs H Q E ⟨hl, ρ, hv, ws, hr, rs, t⟩ => ?_⟩
  unfold Tm selfM at t
  cases ea : arg1 ws with
  | none => rw [ea] at t; exact False.elim t
  | some z =>
    rw [ea] at t
    have := arg1_ok ea
    subst this
    obtain ⟨v, rfl, rv⟩ := rs.one
    dsimp only at t
    cases es : selfB z hv with
    | false =>
      rw [es] at t
      dsimp only at t
      obtain ⟨fd', FD', ok⟩ := all (A0 ns) hn at0 j d hj
      have := same FD'
      subst this
      refine ⟨_, ok, hl, ρ, hv, _, hr, rs, ?_⟩
      cases eb : bk z hv with
      | true =>
        rw [eb] at t
        unfold Tm
        rw [hbk z hv eb]
        exact t
      | false => rw [eb] at t; exact t
    | true =>
      rw [es] at t
      have e := selfB_ok es
      obtain ⟨fd', FD', ok⟩ := all ⟨v, H, ns⟩ hn (fun Y _ _ _ _ hK _ h20 _ => by
        intro pins s σ H1 x y v' u Q' I rx ry ⟨e1, e2, hb, q⟩
        have e1 : x = v := e1
        have e2 : y = v := e2
        rw [e1] at rx
        rw [e2] at ry
        have hb' : Ext H H1 := hb
        have g := hr.ext hb'
        exact o_eqXE (k := p.k K (A0 ns)) h20 hK GL.exs GL.exq pins s σ H1 v v v' u Q' I rx ry ⟨ρ, hv, z, z, true, g.hr, g.rw hr rv, g.rw hr rv, e, q⟩) j d hj
      have := same FD'
      subst this
      refine ⟨_, ok, hl, [], [], [.atm], ⟨rfl, List.nodup_nil, fun i a o e => by simp at e, fun b o e => ⟨e, by simp⟩⟩, .cons .atm .nil, ?_⟩
      unfold Tm
      rw [hm]
      intro ρ' H' g v2 r2
      have ex : Ext H H' := fun b o e => g.frame b o e (by simp)
      cases r2
      exact t ρ H' (hr.ext ex) _ (.bl true)
/-- a table with one def more -/
def putF (j : Nat) (m : List W → M W) (F : Nat → List W → M W) (i : Nat) : List W → M W := match Nat.beq i j with
  | true => m
  | false => F i
theorem put_all {A : At} {F : Nat → List W → M W} {l j : Nat} {m : List W → M W} {d : He.DefD × List Str} (hj : p.fn[j]? = some d) (all : FnAll p K A F l w mg base)
    (ok : ∃ fd, FunD K d.1.name d.1.qual d.1.params d.1.body d.1.scope (d.1.dvs K) (d.1.kws K) (He.fAd K d.1.at_) fd ∧ FnOk p.P w K mg base (CX p.P w) l (He.fAd K d.1.at_) fd (par d.1) (spM (p.k K A) (par d.1).length m)) : FnAll p K A (putF j m F) l w mg base := fun i d' hi => by
  unfold putF
  cases e : Nat.beq i j with
  | true =>
    have := Nat.eq_of_beq_eq_true e
    subst this
    rw [hj] at hi
    cases hi
    exact ok
  | false => exact all i d' hi
theorem all_mono {A : At} {F : Nat → List W → M W} {l l' : Nat} (h : l ≤ l') (all : FnAll p K A F l w mg base) : FnAll p K A F l' w mg base := fun i d hi => by
  obtain ⟨fd, FD, ok⟩ := all i d hi
  exact ⟨fd, FD, ok.mono h⟩
end
/-- a branch's end -/
def pick : List Nat → Res W → Option (W × Hv)
  | [], .ok w h => some (w, h)
  | i :: r, .ask _ f => pick r (f i)
  | _, _ => none
/-- a value, the objects behind the first one -/
def isBk (x : Option (W × Hv)) (w : W) (h : Hv) : Bool := match x with
  | some (w', h') => sameW w w' && (match h with
    | .pot _ _ :: t => sameL sameO t h'.tail
    | _ => false)
  | none => false
theorem isBk_ok {x : Option (W × Hv)} {w : W} {h : Hv} (e : isBk x w h = true) : ∃ w' h' q r, x = some (w', h') ∧ w = w' ∧ h = .pot q r :: h'.tail := by
  unfold isBk at e
  split at e
  · obtain ⟨e1, e2⟩ := ba e
    split at e2
    · exact ⟨_, _, _, _, rfl, sameW_ok e1, by rw [sameL_ok (fun _ _ => sameO_ok) e2]⟩
    · cases e2
  · cases e
def bkW (x : Option (W × Hv)) : W := match x with
  | some z => z.1
  | none => .non
def bkH (x : Option (W × Hv)) : Hv := match x with
  | some z => z.2.tail
  | none => []
/-- every end is True -/
def isTr : W → Bool
  | .bl true => true
  | _ => false
theorem isTr_ok {w : W} (e : isTr w = true) : w = .bl true := by
  unfold isTr at e
  split at e
  · rfl
  · cases e
def lvB (r : Res W) : Bool := r.alls fun w _ => isTr w
theorem lvB_ok : ∀ {r : Res W}, lvB r = true → Lv (fun w _ => w = .bl true) r
  | .ok w h, e => isTr_ok e
  | .exc _ _ _, e => by cases e
  | .err, e => by cases e
  | .ask n f, e => fun i hi => lvB_ok (allN_ok (show allN (fun i => lvB (f i)) n = true from e) i hi)
end
end Ev
set_option Elab.async false
set_option linter.all false
set_option maxRecDepth 1000000
set_option maxHeartbeats 0
namespace K00
open PySem L2 Ev
noncomputable section
theorem drw : Drw pg 44 43 d44 d43 ⟨70001, 47, 10037, 61, 101⟩ ⟨41, 13, 60013, 4801, 31⟩ where
  ft := by kernel_rfl
  fp := by kernel_rfl
  jt := by kernel_rfl
  jp := by kernel_rfl
  nt := by kernel_rfl
  np := by kernel_rfl
  pt := by kernel_rfl
  pp := by kernel_rfl
  ct := fun F => by kernel_rfl
  cp := fun F => by kernel_rfl
  ot := ⟨by decide, by decide, by decide, by decide, by decide⟩
  op := ⟨by decide, by decide, by decide, by decide, by decide⟩
def F1 : Nat → List W → M W := fnT pg.g pg.bs (drawF 44 43) (drawO 44 43) 14
theorem right1 : F1 50 [.atm] [] = .ok (.bl true) [] := by kernel_rfl
/-- the book as a thing -/
def bk0 : Option (W × Hv) := pick [0, 0] (F1 47 [.ref 0] [.pot 62 63])
theorem right2 (q r : Nat) : F1 50 [bkW bk0] (.pot q r :: bkH bk0) = .ok (.bl true) (.pot q r :: bkH bk0) := by kernel_rfl
theorem right3 (w : W) (h : Hv) (e : isBk bk0 w h = true) : F1 50 [w] h = .ok (.bl true) h := by
  obtain ⟨w', h', q, r, e1, e2, e3⟩ := isBk_ok e
  have := right2 q r
  rw [e1] at this
  rw [e2, e3]
  exact this
end
end K00
set_option Elab.async false
set_option linter.all false
set_option maxRecDepth 1000000
set_option maxHeartbeats 0
namespace K00
open PySem L2 Ev
noncomputable section
def B2 : Nat → List W → M W := putF 50 (selfM (isBk bk0) (F1 50)) (drawF 44 43)
def O2 (j : Nat) : Bool := Nat.beq j 50 || drawO 44 43 j
def F2 : Nat → List W → M W := fnT pg.g pg.bs B2 O2 30
def T2 : Nat → List W → M W := fnT pg.g pg.bs B2 O2 29
/-- the law's body, the element of its comprehension apart -/
def lawS (T : Nat → List W → M W) (E : EE) : ES :=
  sSeq (sFor (evSrc rng1P (evArgs [(false, evCallP maxP (evArgs [(false, evC (.int 1)), (false, evCallP minP (evArgs [(false, evC (.int 4)), (false, evCallM lenM (evArgs [(false, evV 0)]))]))]))])) (gN 1)
    (esJn 1 (sSeq (sAsg (gN 2) (evCall 2 (T 43) (evArgs [(false, evV 0), (false, evV 1)]) []))
      (sSeq (sIf (evNotT (evTru (evCallP allP (evArgs [(false, evLc (evSrc rng1P (evArgs [(false, evC (.int 3))])) [3] (gN 3) (fun _ => pure true) E)])))) (sSeq (sRet (evC (.bl false))) sPass) sPass) sPass))))
    (sSeq (sRet (evC (.bl true))) sPass)
def elt (T : Nat → List W → M W) : EE := evJn (evCall 1 (T 50) (evArgs [(false, evCall 1 (T 47) (evArgs [(false, evV 2)]) [])]) [])
theorem body (T : Nat → List W → M W) : esB pg.g T ⟨d51.2, d51.1.scope, d51.1.body, some 1⟩ = lawS T (elt T) := by kernel_rfl
theorem lap62 (k l : Option W) : elt T2 [some .scr, k, some (.ref 0), l] [.pot 62 63] = .ok (.bl true) [.pot 61 63] := by kernel_rfl
theorem lap61 (k l : Option W) : elt T2 [some .scr, k, some (.ref 0), l] [.pot 61 63] = .ok (.bl true) [.pot 60 63] := by kernel_rfl
theorem lap60 (k l : Option W) : elt T2 [some .scr, k, some (.ref 0), l] [.pot 60 63] = .ok (.bl true) [.pot 59 63] := by kernel_rfl
/-- the element, known where the law asks for it -/
def eltM (E : EE) : EE := fun env h => match env, h with
  | [some .scr, _, some (.ref 0), _], [.pot 62 63] => .ok (.bl true) [.pot 61 63]
  | [some .scr, _, some (.ref 0), _], [.pot 61 63] => .ok (.bl true) [.pot 60 63]
  | [some .scr, _, some (.ref 0), _], [.pot 60 63] => .ok (.bl true) [.pot 59 63]
  | _, _ => E env h
theorem elt_eq : elt T2 = eltM (elt T2) := by
  funext env h
  unfold eltM
  split
  · exact lap62 _ _
  · exact lap61 _ _
  · exact lap60 _ _
  · rfl
theorem law2 : lvB (Ev.runF (lawS T2 (eltM (elt T2))) 4 [.scr] []) = true := by kernel_rfl
theorem law1 : lvB (F2 51 [.scr] []) = true := by
  have e : F2 51 = Ev.runF (lawS T2 (eltM (elt T2))) 4 := by
    rw [← elt_eq, ← body]
    kernel_rfl
  rw [e]
  exact law2
theorem all2 (w : World) (K : PySem.W.Frag) (mg : Str → Option Value) (base : Heap) (ns : List Int) (hn : ns.length ≤ 63) (X : K.In base) (G : base.Ns mainGlobals mg) (hk : pg.ck K = true) (S : Funs pg K) : FnAll pg K (A0 ns) F2 109 w mg base := by
  have hn' : ns.length < 64 := by omega
  have a1 : ∀ A : At, A.ns.length < 64 → AtOk pg K A 19 w mg base → FnAll pg K A F1 49 w mg base := fun A hA AO =>
    fn_all (by decide) plain hk X G (draws drw plain hk X G S AO hA) (AO.mono (by decide)) hA 14
  have r1 := self_ok (F := F1) (l := 49) (j := 50) (d := d50) plain hk X G S hn' a1 (by kernel_rfl) (by kernel_rfl) right1 right3
  have a2 : FnAll pg K (A0 ns) B2 49 w mg base := put_all (by kernel_rfl) (all_mono (by decide) (draws drw plain hk X G S at0 hn')) r1
  exact fn_all (by decide) plain hk X G a2 at0 hn' 30
end
end K00
set_option Elab.async false
set_option linter.all false
set_option maxRecDepth 100000
set_option maxHeartbeats 0
open PySem PySem.W PySem.Calls PyProof.Rows
theorem PySem.Challenge.cw_unmissed_k00_errors_holds : PySem.Challenge.rw_unmissed_k00_errors.Holds := by
  w_on; o_law
  refine HandSHeadRun.head_any (r := OpenLaw.row PySem.Challenge.rw_unmissed_k00_errors) (q := view (OpenLaw.row PySem.Challenge.rw_unmissed_k00_errors).prog [79]) (H := K00.pg.hk) (ob := K00.pg.ob) (M := 20000) (loose := K00.loose) (d := HandSHeadRun.topDef (OpenLaw.row PySem.Challenge.rw_unmissed_k00_errors).prog 79) (kwd := []) (Ev.ob_eq K00.pg)
    (by kernel_rfl) (fun s => by kernel_rfl) K00.run (by kernel_rfl) (by kernel_rfl) (by kernel_rfl) (by rfl) (by first | assumption | decide +kernel) (by decide +kernel) ⟨rfl, rfl, rfl, rfl, rfl, by decide +kernel⟩ ?hw ?hc
  case hw => w_witness2
  case hc =>
    exact Ev.law_walk (l := PySem.Challenge.rw_unmissed_k00_errors) K00.pg K00.plain rfl K00.F2 109 51 (d1 := K00.d51) (x := "_law_script") (by kernel_rfl) (by kernel_rfl) (by kernel_rfl) (by kernel_rfl) (by kernel_rfl) (by kernel_rfl) (by kernel_rfl) ⟨rfl, by decide, by decide⟩ K00.all2 (Ev.lvB_ok K00.law1)
