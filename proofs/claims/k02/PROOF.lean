import PyProof.Rows.All
import Wide.All
import OpenK.AllK
import Wide.FinOn
import HandS.Head3
import HandS.HeadEnd
import HandS.HeadHook2
import HandS.Words
import HandS.Exc
import HandS.ForMost
import HandS.ForExc
import HandS.CallSlots
import HandS.Iter
import HandS.Defaults
import HandS.OwnEq
import HandS.SlotsOwn
import HandS.TupAny
import HandS.Gcd
import HandS.Wide
import HandS.IsInst
import HandS.Property
import HandS.More
import HandS.ExcOwn
import HandS.ExcIs
import HandS.RaiseMore
import HandS.TupLe
import HandS.Codes
import HandS.WordsExc
import HandS.Zip
import KE.KSuper
import HandS.Nested
import HandS.Conv
import HandS.ClsMeth
import HandS.Dict
import HandS.MakeKwOnly
import KE.GoesMore
import HandS.ExcInit
import HandS.ExcField
import KE.KExcSuper
import HandS.HotCalls
import HandS.Style
import HandS.Deep
import HandS.Star
import HandS.Text
import HandS.StrMore
import HandS.FStr
import PyProof.StrBlock2
import PySem.Challenge.RW_bestpapers_k02_fraction_texts
set_option Elab.async false
set_option linter.all false
set_option maxRecDepth 100000
set_option maxHeartbeats 4000000
/-! BpH: what a head's run looks at: data, places of defs, facts. -/
open PySem PySem.W PySem.Calls PyProof.Rows in
theorem Lw.enter (h : PySem.Challenge.rw_bestpapers_k02_fraction_texts.row.wellSaid = true → PySem.Challenge.rw_bestpapers_k02_fraction_texts.row.Holds) : PySem.Challenge.rw_bestpapers_k02_fraction_texts.Holds := by
  o_law
  exact h (by assumption)
namespace Bp
open PySem L2 PyProof.Rows He
inductive D where
  | non | bl (b : Bool) | int (i : Int) | str (x : Str) | ty (n : String) | glob (x : Nat)
  | tup (xs : List D) | ins (c : Nat) (xs : List D) | rl (xs : List D) | ref (n : Nat)
  | xv (c : Nat) (ks : List Nat) (vs : List D)
  | rk (ks : List Key) (vs : List D)
  | sc (xs : List D)
instance : Inhabited D := ⟨.non⟩
def dnm : Nat → Str
  | 0 => "__init__" | 1 => "__add__" | 2 => "__radd__" | 3 => "__sub__" | 4 => "__rsub__" | 5 => "__mul__" | 6 => "__rmul__" | 7 => "__floordiv__" | 8 => "__rfloordiv__" | 9 => "__mod__" | 10 => "__rmod__"
  | 11 => "__pow__" | 12 => "__rpow__" | 13 => "__eq__" | 14 => "__ne__" | 15 => "__lt__" | 16 => "__le__" | 17 => "__gt__" | 18 => "__ge__" | 19 => "__neg__" | 20 => "__abs__" | 21 => "__bool__" | 22 => "__str__"
  | 23 => "__len__" | 24 => "__contains__" | 25 => "__getitem__" | 26 => "__iter__" | 27 => "__call__"
  | 28 => "__repr__" | 29 => "__hash__" | 30 => "__setitem__" | 31 => "__delitem__" | 32 => "__next__" | 33 => "__new__" | 34 => "__enter__" | 35 => "__exit__" | 36 => "__format__" | 37 => "__index__" | 38 => "__bytes__" | _ => "__or__"
inductive Tg where
  | b (n : String) | c (n : Nat)
  deriving DecidableEq
def inpFree (K : PySem.W.Frag) (C : Addr) : Bool := match PySem.W.clsIn K C with
  | some cd => cd.mro.all fun m => [Operator.Add, .Sub, .Mult, .FloorDiv, .Mod, .Pow].all fun op => (match PySem.W.findIn K m (dunderI op.info.2) with
    | some none => true
    | _ => false)
  | none => false
inductive Pl where
  | g (x : Str) | m (c m : Str) | p (c m : Str) | s (c m : Str)
def Pl.ad (K : PySem.W.Frag) : Pl → Addr
  | .g x => ga K x
  | .m c x => ma K (ga K c) x
  | .p c x => (match PySem.W.recIn K (ma K (ga K c) x) "property" with
    | some (.ref z :: _) => z
    | _ => 0)
  | .s c x => (match PySem.W.recIn K (ma K (ga K c) x) "staticmethod" with
    | some (.ref z :: _) => z
    | _ => 0)
structure Fd where
  pl : Pl
  name : Str
  qual : Str
  st : Stmt
  dfl : List Dv := []
  kwd : List (Str × Dv) := []
  sup : Option (Str × Str) := none
def Fd.dvs (K : PySem.W.Frag) (d : Fd) : List V := d.dfl.map (Dv.v K)
def Fd.kws (K : PySem.W.Frag) (d : Fd) : List (Str × V) := d.kwd.map fun q => (q.1, q.2.v K)
def cellCk (K : PySem.W.Frag) (cls : Str) : List (Str × Addr) → Bool
  | (_, cc) :: _ => (match K.lookup cc with
    | some ⟨_, _, .cell (some (.ref d)), _⟩ => decide (d = ga K cls)
    | _ => false)
  | [] => false
def fileCk (K : PySem.W.Frag) (file : Str) : Value → Bool
  | .ref c => (match K.lookup c with
    | some ⟨_, _, .fields vs, _⟩ => (match (vs[2]? : Option Value) with
      | some (Value.str f _) => decide (f = file)
      | _ => false)
    | _ => false)
  | _ => false
def supCk (K : PySem.W.Frag) (fd : FuncData) : Option (Str × Str) → Bool
  | none => true
  | some (cls, file) => cellCk K cls fd.closure && fileCk K file fd.code
def Fd.ok (K : PySem.W.Frag) (d : Fd) : Bool := PySem.W.keepIn K (.ref (d.pl.ad K)) && (match K.lookup (d.pl.ad K) with
  | some ⟨_, _, .func fd, _⟩ => PySem.W.codeIn K fd.code d.qual && (supCk K fd d.sup && (dflB K fd.defaults (d.dvs K) && kwdB K fd.kwdefaults (d.kws K)))
  | _ => false)
abbrev FnB : Type := Option (Str × Str × Arguments × FuncBody × Scope × Addr × List Str × Addr)
def fnA (K : PySem.W.Frag) (a : Addr) : FnB := match K.lookup a with
  | some ⟨_, _, .func fd, _⟩ => some (fd.name, fd.qualname, fd.params, fd.body, fd.scope, fd.globals, fd.closure.map (·.1), fd.builtins)
  | _ => none
def Fd.clo (d : Fd) : List Str := match d.sup with
  | none => []
  | some _ => ["__class__"]
def Fd.val (d : Fd) : FnB := some (d.name, d.qual, defArgs d.st, .stmts (defBody d.st), defScope d.st, mainGlobals, d.clo, builtinsNs)
abbrev AlB : Type := Bool × List FnB
def obsB (ck : PySem.W.Frag → Bool) (fn : List Fd) (K : PySem.W.Frag) : AlB := (ck K && fn.all fun d => d.ok K, fn.map fun d => fnA K (d.pl.ad K))
def valB (fn : List Fd) : AlB := (true, fn.map Fd.val)
def SaysB (ck : PySem.W.Frag → Bool) (fn : List Fd) (K : PySem.W.Frag) : Prop := obsB ck fn K = valB fn
structure St where
  nm : Nat → Str
  fl : Nat → List Nat
  N : Nat
  cls : List Nat
  no : List (Nat × Nat)
  one : List Nat
  inp : List Nat
  isi : List ((Tg × Tg) × Bool)
  exo : List Nat
  xm : List ((Nat × Tg) × Bool)
def St.tv (d : St) (K : PySem.W.Frag) : Tg → Value
  | .b n => .type n
  | .c c => .ref (ga K (d.nm c))
def St.gl (d : St) (K : PySem.W.Frag) (c : Nat) : Bool := (Fa.glo (d.nm c)).ok K
def St.glT (d : St) (K : PySem.W.Frag) : Tg → Bool
  | .b _ => true
  | .c c => d.gl K c
def clsCk (K : PySem.W.Frag) (C : Addr) : Bool := PySem.W.selfFirst K C && (decide (PySem.W.subIn K (.ref C) (.type "object") = some true) && (decide (PySem.W.subIn K (.ref C) (.type "int") = some false) && (eqO (PySem.W.findIn K (.ref C) "__class__") (some (some (.builtin "object.__class__"))) &&
  (eqO (PySem.W.specialIn K (.builtin "object.__class__") "__get__") (some (some (.builtin "getset_descriptor.__get__"))) && (decide (PySem.W.takesIn K (.builtin "object.__class__") = some true) && decide (PySem.W.mroIn K C (.type "object") = some true))))))
def excCk (K : PySem.W.Frag) (C : Addr) : Bool := eqO (PySem.W.findIn K (.ref C) "__getattribute__") (some (some (.builtin "BaseException.__getattribute__"))) && (eqO (PySem.W.findIn K (.ref C) "__getattr__") (some none) && (PySem.W.hasDictIn K C && (eqO (PySem.W.findIn K (.ref C) "__class__") (some (some (.builtin "object.__class__"))) &&
  (eqO (PySem.W.specialIn K (.builtin "object.__class__") "__get__") (some (some (.builtin "getset_descriptor.__get__"))) && (decide (PySem.W.takesIn K (.builtin "object.__class__") = some true) && decide (PySem.W.mroIn K C (.type "object") = some true))))))
def St.ck (d : St) (K : PySem.W.Frag) : Bool := (d.cls.all fun c => d.gl K c && ((Fa.cls (d.nm c)).ok K && clsCk K (ga K (d.nm c)))) && ((d.no.all fun q => d.gl K q.1 && (Fa.noat (d.nm q.1) (d.nm q.2)).ok K) && ((d.one.all fun c => d.gl K c && eqO (PySem.W.findIn K (.ref (ga K (d.nm c))) "__ne__") (some (some (.builtin "object.__ne__")))) &&
  ((d.inp.all fun c => d.gl K c && inpFree K (ga K (d.nm c))) && ((d.isi.all fun q => d.glT K q.1.1 && (d.glT K q.1.2 && decide (PySem.W.kitOne K (d.tv K q.1.1) (d.tv K q.1.2) = some q.2))) && ((d.exo.all fun c => d.gl K c && ((Fa.exc (d.nm c)).ok K && excCk K (ga K (d.nm c)))) &&
  d.xm.all fun q => d.gl K q.1.1 && (d.glT K q.1.2 && decide (PySem.W.exmOne K (.ref (ga K (d.nm q.1.1))) (d.tv K q.1.2) = some q.2)))))))
def propCk (K : PySem.W.Frag) (x m : Str) : Bool := eqO (PySem.W.findIn K (.ref (ga K x)) m) (some (some (.ref (ma K (ga K x) m)))) && (eqO (PySem.W.specialIn K (.ref (ma K (ga K x) m)) "__get__") (some (some (.builtin "property.__get__"))) && (decide (PySem.W.takesIn K (.ref (ma K (ga K x) m)) = some true) &&
  (match PySem.W.recIn K (ma K (ga K x) m) "property" with
    | some (.ref _ :: _) => true
    | _ => false)))
def conB : D → Value → Bool
  | .non, .none => true
  | .bl b, .bool c => b == c
  | .int i, .int j _ => decide (j = i)
  | .str z, .str y _ => decide (y = z)
  | _, _ => false
def conL : List D → List Value → Bool
  | [], [] => true
  | d :: ds, u :: us => conB d u && conL ds us
  | _, _ => false
def conT (K : PySem.W.Frag) (d : D) (u : Value) : Bool := match d with
  | .tup xs => (match u with
    | .ref a => (match K.lookup a with
      | some ⟨oc, _, .seq its _, _⟩ => decide (oc = .type "tuple") && (decide (its.size ≤ sizeLine) && conL xs its.toList)
      | _ => false)
    | _ => false)
  | d => conB d u
def gcCk (K : PySem.W.Frag) (x : Str) (d : D) : Bool := match PySem.W.nsIn K mainGlobals x with
  | some (some u) => conT K d u
  | _ => false
def ccCk (K : PySem.W.Frag) (c f : Str) (d : D) : Bool := PySem.W.readsIn K (ga K c) (.type "type") && (match PySem.W.findCls K (.ref (ga K c)) (.type "type") f with
  | some (.val u) => conT K d u
  | _ => false)
def supCkB (K : PySem.W.Frag) (x y z mname : Str) : Bool := eqO (PySem.W.nsIn K cStatics "thirdparty.any") (some none) && ((PySem.W.clsIn K (ga K x)).isSome && (decide (PySem.W.mroIn K (ga K y) (.ref (ga K x)) = some true) && (eqO (PySem.W.ks_superIn K (ga K y) (ga K x) mname) (some (some (.ref (ma K (ga K z) mname)))) &&
  (decide (PySem.W.typeIn K (.ref (ma K (ga K z) mname)) = some (.type "function")) && PySem.W.fnIn K (ma K (ga K z) mname)))))
def emCk (K : PySem.W.Frag) (a : Addr) : Bool := match K.lookup a with
  | some ⟨oc, _, .seq its _, _⟩ => decide (oc = .type "tuple") && decide (its = #[])
  | _ => false
def obsBL (as : List Addr) (ck : PySem.W.Frag → Bool) (fn : List Fd) (g : Addr → Option Obj) : AlB := obsB ck fn (frG g as)
def hookL (as : List Addr) (ck : PySem.W.Frag → Bool) (fn : List Fd) : PySem.W.Hook where
  α := AlB
  obs := fun s => obsBL as ck fn s.heap.get?
  val := fun _ => valB fn
  says := fun _ h => ∃ K : PySem.W.Frag, K.In h ∧ SaysB ck fn K
  of := fun _ _ e => ⟨_, frG_in, e⟩
  keeps := fun _ _ _ ⟨K, hK, c⟩ k => ⟨K, PySem.W.Frag.In.keeps hK k, c⟩
theorem obsBL_eq {as : List Addr} {ck : PySem.W.Frag → Bool} {fn : List Fd} {g : Addr → Option Obj} {s : Shared} (h : ∀ a, g a = s.heap.get? a) : obsBL as ck fn g = (hookL as ck fn).obs s := by
  have e : g = s.heap.get? := funext h
  rw [e] <;> rfl
def oexCk (K : PySem.W.Frag) (C : Addr) : Bool := match K.lookup C with
  | some ⟨oc, _, .cls cd, sl⟩ => decide (oc = .type "type") && (match cd.mro, sl.toList with
    | .ref C' :: bm, [_, _, _, _, some (.builtin n), _] => decide (C' = C) && (decide (n = "ValueError.__new__") && (!cd.hasDel && (cd.hasDict && PySem.HandSPX.refsVE bm)))
    | _, _ => false)
  | _ => false
def xclsCk (K : PySem.W.Frag) (x : Str) (fs : List Str) : Bool :=
  oexCk K (ga K x) && (eqO (PySem.W.findIn K (.ref (ga K x)) "__setattr__") (some (some (.builtin "object.__setattr__"))) && (decide (PySem.W.subIn K (.ref (ga K x)) (.type "BaseException") = some true) && (decide (PySem.W.typeIn K (.ref (ga K x)) = some (.type "type")) &&
  (PySem.W.keepIn K (.ref (ga K x)) && (excCk K (ga K x) && (decide (PySem.W.mroIn K (ga K x) (.ref (ga K x)) = some true) && (eqO (PySem.W.ks_superIn K (ga K x) (ga K x) "__init__") (some (some (.builtin "ValueError.__init__"))) &&
  (decide (PySem.W.subIn K (.ref (ga K x)) (.type "ValueError") = some true) && (eqO (PySem.W.findIn K (.ref (ga K x)) "__init__") (some (some (.ref (ma K (ga K x) "__init__")))) && (decide (PySem.W.typeIn K (.ref (ma K (ga K x) "__init__")) = some (.type "function")) &&
  (eqO (PySem.W.nsIn K cStatics "thirdparty.any") (some none) && fs.all fun f => eqO (PySem.W.findIn K (.ref (ga K x)) f) (some none))))))))))))
/-! ### a run looked at in pieces -/
section
open HandSHeadRun
variable {r : PySem.W.OpenRow} {q : Program} {as : List Addr} {c1 c2 : PySem.W.Frag → Bool} {f1 f2 : List Fd} {M : Nat} {loose : List Str} {w : World}
abbrev obP (as : List Addr) (ck : PySem.W.Frag → Bool) (fn : List Fd) (s : PySem.W.SharedT) : AlB := obsBL as ck fn (getT s)
abbrev RunP (r : PySem.W.OpenRow) (q : Program) (as : List Addr) (ck : PySem.W.Frag → Bool) (fn : List Fd) (M : Nat) (loose : List Str) (w : World) : Prop := RunEqI r q (hookL as ck fn) (obP as ck fn) M loose w
end
end Bp


set_option Elab.async false
set_option linter.all false
set_option maxRecDepth 100000
set_option maxHeartbeats 0
namespace Lw
open PySem L2 PyProof.Rows He Bp
def top (i : Nat) : Stmt := PySem.Challenge.pw_bestpapers_k02_fraction_texts.main.body.getD i (.Pass ⟨0, 0, 0, 0⟩)
def clsB : Stmt → List Stmt
  | .ClassDef _ _ _ b _ _ _ _ _ _ _ => b
  | _ => []
def inC (i j : Nat) : Stmt := (clsB (top i)).getD j (.Pass ⟨0, 0, 0, 0⟩)
abbrev FILE : Str := PySem.Challenge.pw_bestpapers_k02_fraction_texts.main.file
def nm (k : Nat) : Str := if k < 40 then dnm k else (("BestError" :: "DivisionByZero" :: "BadNumber" :: "Frac" :: "text" :: "num" :: "den" :: "ceiling" :: "floor" :: "is_whole" :: "over" :: "read" :: [] : List Str)).getD (k - 40) ""
abbrev n_BestError : Nat := 40
abbrev n_DivisionByZero : Nat := 41
abbrev n_BadNumber : Nat := 42
abbrev n_Frac : Nat := 43
abbrev n_text : Nat := 44
abbrev n_num : Nat := 45
abbrev n_den : Nat := 46
abbrev n_ceiling : Nat := 47
abbrev n_floor : Nat := 48
abbrev n_is_whole : Nat := 49
abbrev n_over : Nat := 50
abbrev n_read : Nat := 51
def flf : Nat → List Nat
  | 43 => [n_num, n_den]
  | _ => []
def S0 : Bp.St where
  nm := nm
  fl := flf
  N := 52
  cls := [n_Frac]
  no := [(n_Frac, n_num), (n_Frac, n_den), (n_Frac, 12)]
  one := [n_Frac]
  inp := [n_Frac]
  isi := [((.b "NoneType", .b "int"), false), ((.b "NoneType", .b "bool"), false), ((.b "NoneType", .c n_Frac), false), ((.b "NoneType", .b "str"), false), ((.b "bool", .b "int"), true), ((.b "bool", .b "bool"), true), ((.b "bool", .c n_Frac), false), ((.b "bool", .b "str"), false), ((.b "int", .b "int"), true), ((.b "int", .b "bool"), false), ((.b "int", .c n_Frac), false), ((.b "int", .b "str"), false), ((.b "str", .b "int"), false), ((.b "str", .b "bool"), false), ((.b "str", .c n_Frac), false), ((.b "str", .b "str"), true), ((.b "tuple", .b "int"), false), ((.b "tuple", .b "bool"), false), ((.b "tuple", .c n_Frac), false), ((.b "tuple", .b "str"), false), ((.b "list", .b "int"), false), ((.b "list", .b "bool"), false), ((.b "list", .c n_Frac), false), ((.b "list", .b "str"), false), ((.c n_Frac, .b "int"), false), ((.c n_Frac, .b "bool"), false), ((.c n_Frac, .c n_Frac), true), ((.c n_Frac, .b "str"), false), ((.c n_BadNumber, .c n_DivisionByZero), false), ((.c n_BadNumber, .c n_BadNumber), true), ((.c n_BadNumber, .b "ValueError"), true)]
  exo := [n_DivisionByZero]
  xm := [((n_BadNumber, .c n_BestError), true)]
def XF : List (Nat × List Nat) := [(n_BadNumber, [n_text])]
abbrev st_F_init : Stmt := inC 7 1
abbrev st_F_bool : Stmt := inC 7 8
abbrev st_F_neg : Stmt := inC 7 9
abbrev st_F_abs : Stmt := inC 7 10
abbrev st_F_add : Stmt := inC 7 11
abbrev st_F_radd : Stmt := inC 7 12
abbrev st_F_sub : Stmt := inC 7 13
abbrev st_F_rsub : Stmt := inC 7 14
abbrev st_F_mul : Stmt := inC 7 15
abbrev st_F_rmul : Stmt := inC 7 16
abbrev st_F_floordiv : Stmt := inC 7 17
abbrev st_F_pow : Stmt := inC 7 21
abbrev st_F_eq : Stmt := inC 7 22
abbrev st_F_lt : Stmt := inC 7 23
abbrev st_F_le : Stmt := inC 7 24
abbrev st_F_gt : Stmt := inC 7 25
abbrev st_F_ge : Stmt := inC 7 26
abbrev st_F_str : Stmt := inC 7 7
abbrev st_F_rfloordiv : Stmt := inC 7 18
abbrev st_F_mod : Stmt := inC 7 19
abbrev st_F_rmod : Stmt := inC 7 20
abbrev st_BadNumber_init : Stmt := inC 5 0
abbrev st_is_figures : Stmt := top 8
abbrev st_F_read : Stmt := inC 7 2
abbrev st__law_cell : Stmt := top 10
abbrev st__law_gcd : Stmt := top 11
abbrev st__law_low : Stmt := top 12
abbrev st__law_number : Stmt := top 13
abbrev st__law_drawn : Stmt := top 14
abbrev st__law_figures : Stmt := top 16
abbrev st__law_integer : Stmt := top 20
abbrev st__law_is : Stmt := top 21
abbrev st__law_reading : Stmt := top 17
abbrev st__law_short : Stmt := top 18
abbrev st__law_text : Stmt := top 15
abbrev st__law_spoilt : Stmt := top 19
abbrev st__law_reads : Stmt := top 22
abbrev st__law_writes : Stmt := top 23
abbrev st_law : Stmt := top 24
def d_F_init : Fd := ⟨.m "Frac" "__init__", "__init__", "Frac.__init__", st_F_init, [.int 0, .int 1], [], none⟩
def d_F_bool : Fd := ⟨.m "Frac" "__bool__", "__bool__", "Frac.__bool__", st_F_bool, [], [], none⟩
def d_F_neg : Fd := ⟨.m "Frac" "__neg__", "__neg__", "Frac.__neg__", st_F_neg, [], [], none⟩
def d_F_abs : Fd := ⟨.m "Frac" "__abs__", "__abs__", "Frac.__abs__", st_F_abs, [], [], none⟩
def d_F_add : Fd := ⟨.m "Frac" "__add__", "__add__", "Frac.__add__", st_F_add, [], [], none⟩
def d_F_radd : Fd := ⟨.m "Frac" "__radd__", "__radd__", "Frac.__radd__", st_F_radd, [], [], none⟩
def d_F_sub : Fd := ⟨.m "Frac" "__sub__", "__sub__", "Frac.__sub__", st_F_sub, [], [], none⟩
def d_F_rsub : Fd := ⟨.m "Frac" "__rsub__", "__rsub__", "Frac.__rsub__", st_F_rsub, [], [], none⟩
def d_F_mul : Fd := ⟨.m "Frac" "__mul__", "__mul__", "Frac.__mul__", st_F_mul, [], [], none⟩
def d_F_rmul : Fd := ⟨.m "Frac" "__rmul__", "__rmul__", "Frac.__rmul__", st_F_rmul, [], [], none⟩
def d_F_floordiv : Fd := ⟨.m "Frac" "__floordiv__", "__floordiv__", "Frac.__floordiv__", st_F_floordiv, [], [], none⟩
def d_F_pow : Fd := ⟨.m "Frac" "__pow__", "__pow__", "Frac.__pow__", st_F_pow, [], [], none⟩
def d_F_eq : Fd := ⟨.m "Frac" "__eq__", "__eq__", "Frac.__eq__", st_F_eq, [], [], none⟩
def d_F_lt : Fd := ⟨.m "Frac" "__lt__", "__lt__", "Frac.__lt__", st_F_lt, [], [], none⟩
def d_F_le : Fd := ⟨.m "Frac" "__le__", "__le__", "Frac.__le__", st_F_le, [], [], none⟩
def d_F_gt : Fd := ⟨.m "Frac" "__gt__", "__gt__", "Frac.__gt__", st_F_gt, [], [], none⟩
def d_F_ge : Fd := ⟨.m "Frac" "__ge__", "__ge__", "Frac.__ge__", st_F_ge, [], [], none⟩
def d_F_str : Fd := ⟨.m "Frac" "__str__", "__str__", "Frac.__str__", st_F_str, [], [], none⟩
def d_F_rfloordiv : Fd := ⟨.m "Frac" "__rfloordiv__", "__rfloordiv__", "Frac.__rfloordiv__", st_F_rfloordiv, [], [], none⟩
def d_F_mod : Fd := ⟨.m "Frac" "__mod__", "__mod__", "Frac.__mod__", st_F_mod, [], [], none⟩
def d_F_rmod : Fd := ⟨.m "Frac" "__rmod__", "__rmod__", "Frac.__rmod__", st_F_rmod, [], [], none⟩
def d_BadNumber_init : Fd := ⟨.m "BadNumber" "__init__", "__init__", "BadNumber.__init__", st_BadNumber_init, [], [], some ("BadNumber", FILE)⟩
def d_is_figures : Fd := ⟨.g "is_figures", "is_figures", "is_figures", st_is_figures, [], [], none⟩
def d_F_read : Fd := ⟨.s "Frac" "read", "read", "Frac.read", st_F_read, [], [], none⟩
def d__law_cell : Fd := ⟨.g "_law_cell", "_law_cell", "_law_cell", st__law_cell, [], [], none⟩
def d__law_gcd : Fd := ⟨.g "_law_gcd", "_law_gcd", "_law_gcd", st__law_gcd, [], [], none⟩
def d__law_low : Fd := ⟨.g "_law_low", "_law_low", "_law_low", st__law_low, [], [], none⟩
def d__law_number : Fd := ⟨.g "_law_number", "_law_number", "_law_number", st__law_number, [], [], none⟩
def d__law_drawn : Fd := ⟨.g "_law_drawn", "_law_drawn", "_law_drawn", st__law_drawn, [], [], none⟩
def d__law_figures : Fd := ⟨.g "_law_figures", "_law_figures", "_law_figures", st__law_figures, [], [], none⟩
def d__law_integer : Fd := ⟨.g "_law_integer", "_law_integer", "_law_integer", st__law_integer, [], [], none⟩
def d__law_is : Fd := ⟨.g "_law_is", "_law_is", "_law_is", st__law_is, [], [], none⟩
def d__law_reading : Fd := ⟨.g "_law_reading", "_law_reading", "_law_reading", st__law_reading, [], [], none⟩
def d__law_short : Fd := ⟨.g "_law_short", "_law_short", "_law_short", st__law_short, [], [], none⟩
def d__law_text : Fd := ⟨.g "_law_text", "_law_text", "_law_text", st__law_text, [], [], none⟩
def d__law_spoilt : Fd := ⟨.g "_law_spoilt", "_law_spoilt", "_law_spoilt", st__law_spoilt, [], [], none⟩
def d__law_reads : Fd := ⟨.g "_law_reads", "_law_reads", "_law_reads", st__law_reads, [], [], none⟩
def d__law_writes : Fd := ⟨.g "_law_writes", "_law_writes", "_law_writes", st__law_writes, [], [], none⟩
def d_law : Fd := ⟨.g "law", "law", "law", st_law, [], [], none⟩
def fns : List Fd := [d_F_init, d_F_bool, d_F_neg, d_F_abs, d_F_add, d_F_radd, d_F_sub, d_F_rsub, d_F_mul, d_F_rmul, d_F_floordiv, d_F_pow, d_F_eq, d_F_lt, d_F_le, d_F_gt, d_F_ge, d_F_str, d_F_rfloordiv, d_F_mod, d_F_rmod, d_BadNumber_init, d_is_figures, d_F_read, d__law_cell, d__law_gcd, d__law_low, d__law_number, d__law_drawn, d__law_figures, d__law_integer, d__law_is, d__law_reading, d__law_short, d__law_text, d__law_spoilt, d__law_reads, d__law_writes, d_law]
def fal : List Fa := [.mkr "Frac", .meth "Frac" "__bool__", .meth "Frac" "__neg__", .meth "Frac" "__abs__", .meth "Frac" "__add__", .meth "Frac" "__radd__", .meth "Frac" "__sub__", .meth "Frac" "__rsub__", .meth "Frac" "__mul__", .meth "Frac" "__rmul__", .meth "Frac" "__floordiv__", .meth "Frac" "__pow__", .meth "Frac" "__eq__", .meth "Frac" "__lt__", .meth "Frac" "__le__", .meth "Frac" "__gt__", .meth "Frac" "__ge__", .meth "Frac" "__str__", .meth "Frac" "__rfloordiv__", .meth "Frac" "__mod__", .meth "Frac" "__rmod__", .free "NotImplemented", .free "ValueError", .free "abs", .free "bool", .free "int", .free "isinstance", .free "len", .free "range", .free "str", .free "super", .glo "BadNumber", .glo "BestError", .glo "DivisionByZero", .glo "Frac", .glo "_law_cell", .glo "_law_drawn", .glo "_law_figures", .glo "_law_gcd", .glo "_law_integer", .glo "_law_is", .glo "_law_low", .glo "_law_number", .glo "_law_reading", .glo "_law_reads", .glo "_law_short", .glo "_law_spoilt", .glo "_law_text", .glo "_law_writes", .glo "is_figures", .glo "law"]
def cks : List (PySem.W.Frag → Bool) := [fun K => xclsCk K "BadNumber" ["text"], fun K => PySem.W.readsIn K (ga K "Frac") (.type "type") && ((match PySem.W.findCls K (.ref (ga K "Frac")) (.type "type") "read" with | some (.get (.builtin g) (.ref p) .none (.ref d)) => g == "staticmethod.__get__" && (decide (p = ma K (ga K "Frac") "read") && decide (d = ga K "Frac")) | _ => false) && (match PySem.W.recIn K (ma K (ga K "Frac") "read") "staticmethod" with | some (.ref z :: _) => PySem.W.keepIn K (.ref z) | _ => false)), fun K => ccCk K "Frac" "MOST_FIGURES" (.int 40), fun K => eqO (PySem.W.nsIn K mainGlobals "gcd") (some (some (.builtin "math.gcd")))]
def ck (K : PySem.W.Frag) : Bool := S0.ck K && ((fal.all fun f => f.ok K) && (cks.all fun f => f K))
end Lw


set_option Elab.async false
set_option linter.all false
set_option maxRecDepth 100000
set_option maxHeartbeats 4000000
/-! BpHb: the head's run looked at in pieces that each hold one look alone (memory). -/
namespace Bp
open PySem L2 PyProof.Rows He
section
open HandSHeadRun
variable {r : PySem.W.OpenRow} {q : Program} {as : List Addr} {c1 c2 : PySem.W.Frag → Bool} {f1 f2 : List Fd} {M : Nat} {loose : List Str} {w : World}
abbrev RunA (r : PySem.W.OpenRow) (M : Nat) (w : World) : Prop := (wholeF (fun p => stepQ (denQ tabQ) p w) fenceQ M r.prog).map (fun x => looksF r.prog x.1.heap x.2.abs) = some true
abbrev RunB (r : PySem.W.OpenRow) (q : Program) (M : Nat) (loose : List Str) (w : World) : Prop := (wholeF (fun p => stepQ (denQ tabQ) p w) fenceQ M r.prog).map (fun x => seenQ q loose (PySem.importedModules r.prog.main.body) (fun s => PySem.W.xlAt q [] s && PySem.W.recOk r.toRowW.records s) x.2.abs) = some (PySem.W.openGood q loose)
abbrev RunO (r : PySem.W.OpenRow) (as : List Addr) (ck : PySem.W.Frag → Bool) (fn : List Fd) (M : Nat) (w : World) : Prop := (wholeF (fun p => stepQ (denQ tabQ) p w) fenceQ M r.prog).map (fun x => obP as ck fn x.2) = some (valB fn)
theorem runO_cat (a : RunO r as c1 f1 M w) (b : RunO r as c2 f2 M w) : RunO r as (fun K => c1 K && c2 K) (f1 ++ f2) M w := by
  unfold RunO at *
  obtain ⟨x, hx, h1⟩ := Option.map_eq_some_iff.mp a
  rw [hx] at b ⊢
  have h2 := Option.some.inj b
  refine congrArg some ?_
  have a3 : obsB c1 f1 (frG (getT x.2) as) = valB f1 := h1
  have b3 : obsB c2 f2 (frG (getT x.2) as) = valB f2 := h2
  show obsB (fun K => c1 K && c2 K) (f1 ++ f2) (frG (getT x.2) as) = valB (f1 ++ f2)
  unfold obsB valB at *
  obtain ⟨p1, p2⟩ := Prod.mk.inj a3
  obtain ⟨q1, q2⟩ := Prod.mk.inj b3
  simp only [Bool.and_eq_true] at p1 q1
  refine Prod.ext ?_ ?_
  · simp only [List.all_append, p1.1, p1.2, q1.1, q1.2]
    rfl
  · simp only [List.map_append, p2, q2]
theorem runO_to (h : ∀ K, c1 K = true → c2 K = true) (a : RunO r as c1 f1 M w) : RunO r as c2 f1 M w := by
  unfold RunO at *
  obtain ⟨x, hx, h1⟩ := Option.map_eq_some_iff.mp a
  rw [hx]
  refine congrArg some ?_
  have a3 : obsB c1 f1 (frG (getT x.2) as) = valB f1 := h1
  show obsB c2 f1 (frG (getT x.2) as) = valB f1
  unfold obsB valB at *
  obtain ⟨p1, p2⟩ := Prod.mk.inj a3
  simp only [Bool.and_eq_true] at p1
  refine Prod.ext ?_ p2
  simp only [h _ p1.1, p1.2]
  rfl
theorem run_join (a : RunA r M w) (b : RunB r q M loose w) (c : RunO r as c1 f1 M w) : RunP r q as c1 f1 M loose w := by
  unfold RunA RunB RunO RunP RunEqI at *
  obtain ⟨x, hx, h1⟩ := Option.map_eq_some_iff.mp a
  rw [hx] at b c ⊢
  exact congrArg some (Prod.ext h1 (Prod.ext (Option.some.inj b) (Option.some.inj c)))
end
end Bp


set_option Elab.async false
set_option linter.all false
set_option maxRecDepth 100000
set_option maxHeartbeats 0
namespace Lw
open PySem L2 PyProof.Rows He Bp
abbrev R : PySem.W.OpenRow := PySem.W.OpenLaw.row PySem.Challenge.rw_bestpapers_k02_fraction_texts
def addrs : List PySem.Addr := 3 :: 291 :: 292 :: 2 :: 90 :: 92 :: 93 :: 110 :: 117 :: 119 :: 156 :: 163 :: 170 :: 177 :: 184 :: 191 :: 198 :: 205 :: 212 :: 219 :: 226 :: 233 :: 240 :: 247 :: 254 :: 261 :: 268 :: 275 :: 282 :: 289 :: 58 :: 59 :: 78 :: 89 :: 103 :: 109 :: 116 :: 155 :: 162 :: 169 :: 176 :: 183 :: 190 :: 197 :: 204 :: 211 :: 218 :: 225 :: 232 :: 239 :: 246 :: 253 :: 260 :: 267 :: 274 :: 281 :: 288 :: 302 :: 303 :: 309 :: 310 :: 316 :: 317 :: 323 :: 324 :: 330 :: 331 :: 337 :: 338 :: 344 :: 345 :: 351 :: 352 :: 358 :: 359 :: 365 :: 366 :: 372 :: 373 :: 379 :: 380 :: 386 :: 387 :: 393 :: 394 :: 400 :: 401 :: 407 :: 408 :: 71 :: 72 :: []
abbrev hk : PySem.W.Hook := hookL addrs ck fns
def ob (s : PySem.W.SharedT) : AlB := obsBL addrs ck fns (HandSHeadRun.getT s)
theorem ob_eq (s : PySem.W.SharedT) : ob s = hk.obs s.abs := obsBL_eq (HandSHeadRun.getT_eq s)
abbrev loose : List Str := "gcd" :: "_wall" :: "BestError" :: "DivisionByZero" :: "BadNumber" :: "Frac" :: "is_figures" :: "_law_cell" :: "_law_gcd" :: "_law_low" :: "_law_number" :: "_law_drawn" :: "_law_text" :: "_law_figures" :: "_law_reading" :: "_law_short" :: "_law_spoilt" :: "_law_integer" :: "_law_is" :: "_law_reads" :: "_law_writes" :: []
def fn0 : List Fd := [d_F_init, d_F_bool, d_F_neg, d_F_abs, d_F_add, d_F_radd, d_F_sub, d_F_rsub, d_F_mul, d_F_rmul, d_F_floordiv, d_F_pow, d_F_eq, d_F_lt, d_F_le, d_F_gt, d_F_ge, d_F_str, d_F_rfloordiv]
def fn1 : List Fd := [d_F_mod, d_F_rmod, d_BadNumber_init, d_is_figures, d_F_read, d__law_cell, d__law_gcd, d__law_low, d__law_number, d__law_drawn, d__law_figures, d__law_integer, d__law_is, d__law_reading, d__law_short, d__law_text, d__law_spoilt, d__law_reads, d__law_writes, d_law]
theorem fn01 : [] ++ (fn0 ++ fn1) = fns := rfl
theorem run0 (w : World) : RunA R 2506 w := by
  unfold RunA
  kernel_rfl
theorem run1 (w : World) : RunB R (PySem.W.view R.prog [24]) 2506 loose w := by
  unfold RunB
  kernel_rfl
theorem run2 (w : World) : RunO R addrs (fun K => (S0.ck K && cks.all fun f => f K) && fal.all fun f => f.ok K) [] 2506 w := by
  unfold RunO
  kernel_rfl
theorem run3 (w : World) : RunO R addrs (fun _ => true) fn0 2506 w := by
  unfold RunO
  kernel_rfl
theorem run4 (w : World) : RunO R addrs (fun _ => true) fn1 2506 w := by
  unfold RunO
  kernel_rfl
theorem run (w : World) : HandSHeadRun.RunEqI R (PySem.W.view R.prog [24]) hk ob 2506 loose w := by
  have a := runO_cat (run2 w) (runO_cat (run3 w) (run4 w))
  rw [fn01] at a
  refine run_join (run0 w) (run1 w) (runO_to (c2 := ck) (fun K h => ?_) a)
  simp only [Bool.and_eq_true, Bool.and_true] at h
  unfold ck
  simp only [Bool.and_eq_true]
  exact ⟨h.1.1, h.2, h.1.2⟩
end Lw


set_option Elab.async false
set_option linter.all false
set_option maxRecDepth 100000
set_option maxHeartbeats 0
open PySem PySem.W PySem.Calls PyProof.Rows
namespace Lw
abbrev Q0 : Program := view R.prog [24]
abbrev D0 : DefRec := HandSHeadRun.topDef R.prog 24
theorem a_def : defOf Q0 R.name = some (D0, []) := by kernel_rfl
theorem a_p : R.prog.theDef R.name = some (D0.params, D0.body, D0.scope) := by kernel_rfl
theorem a_k : kwWritten? D0.params.kwonlyargs D0.params.kw_defaults = some [] := by kernel_rfl
theorem a_wr : (!R.writes || R.records.isEmpty) = true := by rfl
theorem l1 : sreFenced R.prog.main = true := by first | k_qdec | decide +kernel
theorem l2 : ((moduleNames R.prog.main.body).isEmpty || lookedIntoSs (moduleNames R.prog.main.body) R.prog.main.body) = true := by first | k_qdec | decide +kernel
theorem l3 : namesResolve R.prog = true := by first | k_qdec | decide +kernel
theorem l4 : R.prog.boundNames.all (fun n => !worldNames.contains n) = true := by first | k_qdec | decide +kernel
theorem l5 : noRoadLSs { strict := !(importedModules R.prog.main.body).all cThrough.contains, foot := none, bare := (["vars", "dir", "locals"] : List Str).filter (readsOut R.prog R.prog.main.body) } R.prog.main.body = true := by first | k_qdec | decide +kernel
theorem l6 : (namesMeet R.prog R.prog.main.body fun _ n => attrL n) = true := by first | k_qdec | decide +kernel
theorem lo : looksOpen R.prog = true := by
  show (sreFenced R.prog.main && ((moduleNames R.prog.main.body).isEmpty || lookedIntoSs (moduleNames R.prog.main.body) R.prog.main.body) && namesResolve R.prog && R.prog.boundNames.all (fun n => !worldNames.contains n) && noRoadLSs { strict := !(importedModules R.prog.main.body).all cThrough.contains, foot := none, bare := (["vars", "dir", "locals"] : List Str).filter (readsOut R.prog R.prog.main.body) } R.prog.main.body && namesMeet R.prog R.prog.main.body fun _ n => attrL n) = true
  rw [l1, l2, l3, l4, l5, l6]
  rfl
theorem a_k1 : R.wellSaid = true := by
  unfold PySem.W.OpenRow.wellSaid PySem.W.OpenRow.partSaid
  rw [lo]
  decide +kernel
theorem a_hb : R.prog.bare := ⟨rfl, rfl, rfl, rfl, rfl, by decide +kernel⟩
theorem a_ok1 : chainsOk Q0 = true := by decide +kernel
theorem a_ok2 : opensWell R.prog = true := by decide +kernel
theorem a_ok3 : (frees R.toRowW && R.within.isEmpty) = true := by decide +kernel
theorem a_ok : (chainsOk Q0 && opensWell R.prog && (frees R.toRowW && R.within.isEmpty)) = true := by rw [a_ok1, a_ok2, a_ok3]; rfl
theorem h_file : (((PySem.Challenge.rw_bestpapers_k02_fraction_texts.prog).main.file : PySem.Str) == FILE) = true := by kernel_rfl
theorem h_top : ((PySem.Challenge.rw_bestpapers_k02_fraction_texts.prog).main.scope.names.lookup ("super" : PySem.Str)).isSome = false := by kernel_rfl
end Lw


set_option Elab.async false
set_option linter.all false
set_option maxRecDepth 100000
set_option maxHeartbeats 4000000
/-! Bp0: plain data D, stores, worlds; how they stand for the layer's values and heaps. -/
namespace Bp
open PySem L2

inductive O where
  | lst (xs : List D)
  | obj (c : Nat) (fs : List (Nat × D))
  | dic (kvs : List (Key × D))
  | dead
abbrev Store := List O
structure Ex where
  c : Nat
  ks : List Nat := []
  vs : List D := []
inductive Res (α : Type) where
  | ok (a : α) (S : Store)
  | exc (e : Ex) (S : Store)
  | bad
abbrev Fn := List D → Store → Res D
abbrev Env := List (Option D)
abbrev ME := Env → Store → Res D
abbrev MA := Env → Store → Res (List D)

structure Tn where
  nm : Nat → Str
  fl : Nat → List Nat
structure Gs where
  K : PySem.W.Frag
  mg : Str → Option Value
  tn : Tn
  x : Option (Addr × Value × Option Addr) := none
structure Wd where
  F : Hp
  μ : List Addr
  xs : List (Addr × Value × Option Addr)
structure Le (W W' : Wd) : Prop where
  F : ∀ a o, W.F a = some o → W'.F a = some o
  μ : W.μ <+: W'.μ
  xs : W.xs <+: W'.xs
theorem Le.refl (W : Wd) : Le W W := ⟨fun _ _ h => h, List.prefix_rfl, List.prefix_rfl⟩
theorem Le.trans {W W1 W2 : Wd} (a : Le W W1) (b : Le W1 W2) : Le W W2 := ⟨fun x o h => b.F x o (a.F x o h), a.μ.trans b.μ, a.xs.trans b.xs⟩
theorem Le.at {W W' : Wd} (l : Le W W') {n : Nat} {a : Addr} (h : W.μ[n]? = some a) : W'.μ[n]? = some a := by
  obtain ⟨t, e⟩ := l.μ
  rw [← e, List.getElem?_append_left (List.getElem?_eq_some_iff.mp h).1]
  exact h
theorem rd_mono {F F' : Hp} (h : ∀ a o, F a = some o → F' a = some o) {a : Addr} {u : HO} (r : Rd F a u) : Rd F' a u := by
  rcases r with r | ⟨o, r⟩
  · exact .inl (h _ _ r)
  · exact .inr ⟨o, h _ _ r⟩
theorem sql_mono {K : PySem.W.Frag} {F F' : Hp} (h : ∀ a o, F a = some o → F' a = some o) {a : Addr} {xs : List V} (r : SqL K F a xs) : SqL K F' a xs := r.imp (rd_mono h) id

def TupAt (K : PySem.W.Frag) (F : Hp) (a : Addr) (vs : List V) : Prop := F a = some (.tup vs) ∨ ∃ (o : Obj) (its : Array Value) (n : Nat), K.lookup a = some o ∧ o.cls = .type "tuple" ∧ o.data = .seq its n ∧ its.size ≤ sizeLine ∧ Vals vs its.toList
theorem TupAt.sqt {K : PySem.W.Frag} {F H : Hp} {a : Addr} {vs : List V} (h : TupAt K F a vs) (m : ∀ a o, F a = some o → H a = some o) : SqT K H a vs := h.elim (fun z => .inl (.inl (m _ _ z))) .inr
theorem TupAt.mono {K : PySem.W.Frag} {F F' : Hp} {a : Addr} {vs : List V} (h : TupAt K F a vs) (m : ∀ a o, F a = some o → F' a = some o) : TupAt K F' a vs := h.imp (m _ _) id
mutual
inductive RepV (G : Gs) (W : Wd) : D → V → Prop where
  | non : RepV G W .non .non
  | bl (b : Bool) : RepV G W (.bl b) (.bl b)
  | int (i : Int) : RepV G W (.int i) (.int i)
  | str (x : Str) : RepV G W (.str x) (.str x)
  | ty (n : String) : RepV G W (.ty n) (.ty n)
  | glob (x : Nat) (a : Addr) (h : G.mg (G.tn.nm x) = some (.ref a)) : RepV G W (.glob x) (.ref a)
  | tup (xs : List D) (vs : List V) (a : Addr) (h : TupAt G.K W.F a vs) (r : RepL G W xs vs) : RepV G W (.tup xs) (.ref a)
  | ins (c : Nat) (xs : List D) (a C dx : Addr) (fvs : List (Str × V)) (hc : G.mg (G.tn.nm c) = some (.ref C)) (h : W.F a = some (.ins C dx fvs)) (hk : fvs.map (·.1) = (G.tn.fl c).map G.tn.nm) (r : RepL G W xs (fvs.map (·.2))) : RepV G W (.ins c xs) (.ref a)
  | rl (xs : List D) (vs : List V) (a : Addr) (h : W.F a = some (.lst vs)) (r : RepL G W xs vs) : RepV G W (.rl xs) (.ref a)
  | ref (n : Nat) (a : Addr) (h : W.μ[n]? = some a) : RepV G W (.ref n) (.ref a)
  | xv (c : Nat) (ks : List Nat) (vs : List D) (a C dd : Addr) (d : Option Addr) (fvs : List (Str × V)) (h : G.x = some (a, .ref C, d)) (hc : G.mg (G.tn.nm c) = some (.ref C)) (h0 : ks = [] → d = none)
      (h1 : ks ≠ [] → d = some dd ∧ W.F dd = some (.xd fvs)) (hk : fvs.map (·.1) = ks.map G.tn.nm) (r : RepL G W vs (fvs.map (·.2))) : RepV G W (.xv c ks vs) (.ref a)
  | rk (ks : List Key) (ds : List D) (a : Addr) (kws : List (Key × V)) (h : W.F a = some (.dK kws)) (hk : kws.map (·.1) = ks) (r : RepL G W ds (kws.map (·.2))) : RepV G W (.rk ks ds) (.ref a)
  | sc (xs : List D) (vs : List V) (a : Addr) (h : SqL G.K W.F a vs) (r : RepL G W xs vs) : RepV G W (.sc xs) (.ref a)
inductive RepL (G : Gs) (W : Wd) : List D → List V → Prop where
  | nil : RepL G W [] []
  | cons {d : D} {v : V} {ds : List D} {vs : List V} (h : RepV G W d v) (t : RepL G W ds vs) : RepL G W (d :: ds) (v :: vs)
end
theorem RepV.mono {G : Gs} {W W' : Wd} (l : Le W W') {d : D} {v : V} (r : RepV G W d v) : RepV G W' d v := by
  refine RepV.rec (motive_1 := fun d v _ => RepV G W' d v) (motive_2 := fun ds vs _ => RepL G W' ds vs) .non .bl .int .str .ty .glob ?_ ?_ ?_ ?_ ?_ ?_ ?_ .nil ?_ r
  · exact fun xs vs a h _ r => .tup xs vs a (h.mono l.F) r
  · exact fun c xs a C dx fvs hc h hk _ r => .ins c xs a C dx fvs hc (l.F _ _ h) hk r
  · exact fun xs vs a h _ r => .rl xs vs a (l.F _ _ h) r
  · exact fun n a h => .ref n a (l.at h)
  · exact fun c ks vs a C dd d fvs h hc h0 h1 hk _ r => .xv c ks vs a C dd d fvs h hc h0 (fun z => ⟨(h1 z).1, l.F _ _ (h1 z).2⟩) hk r
  · exact fun ks ds a kws h hk _ r => .rk ks ds a kws (l.F _ _ h) hk r
  · exact fun xs vs a h _ r => .sc xs vs a (sql_mono l.F h) r
  · exact fun _ _ h t => .cons h t
theorem RepL.mono {G : Gs} {W W' : Wd} (l : Le W W') : ∀ {ds : List D} {vs : List V}, RepL G W ds vs → RepL G W' ds vs
  | _, _, .nil => .nil
  | _, _, .cons h t => .cons (h.mono l) (t.mono l)
theorem RepL.length {G : Gs} {W : Wd} : ∀ {ds : List D} {vs : List V}, RepL G W ds vs → ds.length = vs.length
  | _, _, .nil => rfl
  | _, _, .cons _ t => by rw [List.length_cons, List.length_cons, t.length]
theorem RepL.append {G : Gs} {W : Wd} : ∀ {ds es : List D} {vs us : List V}, RepL G W ds vs → RepL G W es us → RepL G W (ds ++ es) (vs ++ us)
  | _, _, _, _, .nil, r => r
  | _, _, _, _, .cons h t, r => .cons h (t.append r)
theorem RepL.get {G : Gs} {W : Wd} : ∀ {ds : List D} {vs : List V} {i : Nat} {d : D}, RepL G W ds vs → ds[i]? = some d → ∃ v, vs[i]? = some v ∧ RepV G W d v
  | _, _, _, _, .nil, h => by simp at h
  | _, _, 0, _, .cons h _, e => by simp at e; subst e; exact ⟨_, rfl, h⟩
  | _, _, i + 1, d, .cons _ t, e => by
    obtain ⟨v, h1, h2⟩ := t.get (i := i) (d := d) (by simpa using e)
    exact ⟨v, by simpa using h1, h2⟩
theorem RepL.set {G : Gs} {W : Wd} {d : D} {v : V} (h : RepV G W d v) : ∀ {ds : List D} {vs : List V} (i : Nat), RepL G W ds vs → RepL G W (ds.set i d) (vs.set i v)
  | _, _, _, .nil => .nil
  | _, _, 0, .cons _ t => .cons h t
  | _, _, i + 1, .cons a t => .cons a (RepL.set h i t)
theorem RepL.take {G : Gs} {W : Wd} : ∀ {ds : List D} {vs : List V} (n : Nat), RepL G W ds vs → RepL G W (ds.take n) (vs.take n)
  | _, _, _, .nil => by simp; exact .nil
  | _, _, 0, .cons _ _ => .nil
  | _, _, i + 1, .cons a t => .cons a (RepL.take i t)
theorem RepL.drop {G : Gs} {W : Wd} : ∀ {ds : List D} {vs : List V} (n : Nat), RepL G W ds vs → RepL G W (ds.drop n) (vs.drop n)
  | _, _, _, .nil => by simp; exact .nil
  | _, _, 0, .cons a t => .cons a t
  | _, _, i + 1, .cons _ t => RepL.drop i t

def RepF (G : Gs) (W : Wd) (fs : List (Nat × D)) (fvs : List (Str × V)) : Prop := fvs.map (·.1) = fs.map (fun p => G.tn.nm p.1) ∧ RepL G W (fs.map (·.2)) (fvs.map (·.2))
theorem RepF.mono {G : Gs} {W W' : Wd} (l : Le W W') {fs : List (Nat × D)} {fvs : List (Str × V)} (r : RepF G W fs fvs) : RepF G W' fs fvs := ⟨r.1, r.2.mono l⟩
inductive RepO (G : Gs) (W : Wd) (a : Addr) : O → HO → Prop where
  | lst (xs : List D) (vs : List V) (r : RepL G W xs vs) : RepO G W a (.lst xs) (.lst vs)
  | obj (c : Nat) (fs : List (Nat × D)) (C dx : Addr) (fvs : List (Str × V)) (hc : G.mg (G.tn.nm c) = some (.ref C)) (r : RepF G W fs fvs) : RepO G W a (.obj c fs) (.ins C dx fvs)
  | dic (kvs : List (Key × D)) (kws : List (Key × V)) (hk : kws.map (·.1) = kvs.map (·.1)) (r : RepL G W (kvs.map (·.2)) (kws.map (·.2))) : RepO G W a (.dic kvs) (.dK kws)
  | dead (ho : HO) : RepO G W a .dead ho
theorem RepO.mono {G : Gs} {W W' : Wd} (l : Le W W') {a : Addr} {o : O} {ho : HO} (r : RepO G W a o ho) : RepO G W' a o ho := by
  cases r with
  | lst xs vs r => exact .lst xs vs (r.mono l)
  | obj c fs C dx fvs hc r => exact .obj c fs C dx fvs hc (r.mono l)
  | dic kvs kws hk r => exact .dic kvs kws hk (r.mono l)
  | dead ho => exact .dead ho
structure Rel (G : Gs) (W : Wd) (S : Store) (H : Hp) : Prop where
  fr : ∀ a o, W.F a = some o → H a = some o
  len : W.μ.length = S.length
  nd : W.μ.Nodup
  off : ∀ (n : Nat) (a : Addr), W.μ[n]? = some a → S[n]? ≠ some .dead → W.F a = none
  obj : ∀ (n : Nat) (a : Addr) (o : O), W.μ[n]? = some a → S[n]? = some o → ∃ ho, H a = some ho ∧ RepO G W a o ho

section
variable {G : Gs} {W : Wd} {S : Store} {H : Hp} {p : Addr}
theorem Rel.addr (R : Rel G W S H) {n : Nat} {o : O} (h : S[n]? = some o) : ∃ a, W.μ[n]? = some a := by
  have hn : n < W.μ.length := by rw [R.len]; exact (List.getElem?_eq_some_iff.mp h).1
  exact ⟨W.μ[n], List.getElem?_eq_getElem hn⟩
theorem Rel.at (R : Rel G W S H) {n : Nat} {a : Addr} (h : W.μ[n]? = some a) : ∃ o, S[n]? = some o := by
  have hn : n < S.length := by rw [← R.len]; exact (List.getElem?_eq_some_iff.mp h).1
  exact ⟨S[n], List.getElem?_eq_getElem hn⟩
theorem Rel.there (R : Rel G W S H) {a : Addr} (h : a ∈ W.μ) : ∃ ho, H a = some ho := by
  obtain ⟨n, hn⟩ := List.mem_iff_getElem?.mp h
  obtain ⟨o, ho⟩ := R.at hn
  obtain ⟨u, hu, _⟩ := R.obj n a o hn ho
  exact ⟨u, hu⟩
theorem Rel.notμ (R : Rel G W S H) (h : H p = none) : p ∉ W.μ := fun q => by
  obtain ⟨u, hu⟩ := R.there q
  rw [h] at hu
  cases hu
theorem Rel.notF (R : Rel G W S H) (h : H p = none) : W.F p = none := by
  cases e : W.F p with
  | none => rfl
  | some o => rw [R.fr _ _ e] at h; cases h
theorem Rel.fix (R : Rel G W S H) (h : H p = none) (o : HO) : Le W ⟨upd W.F p o, W.μ, W.xs⟩ ∧ Rel G ⟨upd W.F p o, W.μ, W.xs⟩ S (upd H p o) := by
  have l : Le W ⟨upd W.F p o, W.μ, W.xs⟩ := ⟨fun a u e => by
    show upd W.F p o a = some u
    rw [upd_ne (ne_of_none (R.fr _ _ e) h)]
    exact e, List.prefix_rfl, List.prefix_rfl⟩
  refine ⟨l, ⟨fun a u e => ?_, R.len, R.nd, fun m a ha hd => ?_, fun n a u e1 e2 => ?_⟩⟩
  · have e' : upd W.F p o a = some u := e
    by_cases hp : a = p
    · subst hp
      rw [upd_same] at e' ⊢
      exact e'
    · rw [upd_ne hp] at e' ⊢
      exact R.fr _ _ e'
  · show upd W.F p o a = none
    have ne : a ≠ p := fun q => R.notμ h (q ▸ List.mem_iff_getElem?.mpr ⟨_, ha⟩)
    rw [upd_ne ne]
    exact R.off m a ha hd
  · obtain ⟨ho, h1, h2⟩ := R.obj n a u e1 e2
    refine ⟨ho, ?_, h2.mono l⟩
    rw [upd_ne (ne_of_none h1 h)]
    exact h1
theorem Rel.new (R : Rel G W S H) (h : H p = none) {o : O} {ho : HO} (r : RepO G ⟨W.F, W.μ ++ [p], W.xs⟩ p o ho) : Le W ⟨W.F, W.μ ++ [p], W.xs⟩ ∧ Rel G ⟨W.F, W.μ ++ [p], W.xs⟩ (S ++ [o]) (upd H p ho) := by
  have l : Le W ⟨W.F, W.μ ++ [p], W.xs⟩ := ⟨fun _ _ e => e, List.prefix_append _ _, List.prefix_rfl⟩
  refine ⟨l, ⟨fun a u e => ?_, ?_, ?_, fun m a ha hd => ?_, fun n a u e1 e2 => ?_⟩⟩
  · have e' := R.fr _ _ e
    rw [upd_ne (ne_of_none e' h)]
    exact e'
  · show (W.μ ++ [p]).length = (S ++ [o]).length
    rw [List.length_append, List.length_append, R.len]; rfl
  · show (W.μ ++ [p]).Nodup
    refine List.nodup_append.mpr ⟨R.nd, by simp, fun a ha b hb => ?_⟩
    have : b = p := by simpa using hb
    subst this
    intro q
    exact R.notμ h (q ▸ ha)
  · have ha' : (W.μ ++ [p])[m]? = some a := ha
    by_cases hm : m < W.μ.length
    · rw [List.getElem?_append_left hm] at ha'
      rw [List.getElem?_append_left (by rw [← R.len]; exact hm)] at hd
      exact R.off m a ha' hd
    · have hl := (List.getElem?_eq_some_iff.mp ha').1
      rw [List.length_append, List.length_singleton] at hl
      have hm' : m = W.μ.length := by omega
      subst hm'
      rw [List.getElem?_append_right (Nat.le_refl _), Nat.sub_self] at ha'
      have : p = a := by simpa using ha'
      subst this
      exact R.notF h
  · have e1' : (W.μ ++ [p])[n]? = some a := e1
    by_cases hn : n < W.μ.length
    · rw [List.getElem?_append_left hn] at e1'
      rw [List.getElem?_append_left (by rw [← R.len]; exact hn)] at e2
      obtain ⟨v, h1, h2⟩ := R.obj n a u e1' e2
      exact ⟨v, by rw [upd_ne (ne_of_none h1 h)]; exact h1, h2.mono l⟩
    · have hl : n < (W.μ ++ [p]).length := (List.getElem?_eq_some_iff.mp e1').1
      rw [List.length_append, List.length_singleton] at hl
      have hn' : n = W.μ.length := by omega
      subst hn'
      rw [List.getElem?_append_right (Nat.le_refl _), Nat.sub_self] at e1'
      rw [R.len, List.getElem?_append_right (Nat.le_refl _), Nat.sub_self] at e2
      have a1 : p = a := by simpa using e1'
      have a2 : o = u := by simpa using e2
      subst a1 a2
      exact ⟨ho, upd_same, r⟩
theorem Rel.put (R : Rel G W S H) {n : Nat} {a : Addr} (hn : W.μ[n]? = some a) {o o0 : O} {ho : HO} (h0 : S[n]? = some o0) (hne : o0 ≠ .dead) (r : RepO G W a o ho) : Rel G W (S.set n o) (upd H a ho) := by
  have hlt : n < W.μ.length := (List.getElem?_eq_some_iff.mp hn).1
  refine ⟨fun b u e => ?_, by rw [List.length_set]; exact R.len, R.nd, fun m b e1 e2 => ?_, fun m b u e1 e2 => ?_⟩
  · have ne : b ≠ a := fun q => by
      subst q
      rw [R.off n b hn (by rw [h0]; exact fun z => hne (Option.some.inj z))] at e
      cases e
    rw [upd_ne ne]
    exact R.fr _ _ e
  · by_cases hm : m = n
    · subst hm
      rw [hn] at e1
      cases e1
      exact R.off m a hn (by rw [h0]; exact fun z => hne (Option.some.inj z))
    · rw [List.getElem?_set_ne (Ne.symm hm)] at e2
      exact R.off m b e1 e2
  · by_cases hm : m = n
    · subst hm
      rw [hn] at e1
      cases e1
      rw [List.getElem?_set_self (by rw [← R.len]; exact hlt)] at e2
      cases e2
      exact ⟨ho, upd_same, r⟩
    · rw [List.getElem?_set_ne (Ne.symm hm)] at e2
      obtain ⟨v, h1, h2⟩ := R.obj m b u e1 e2
      refine ⟨v, ?_, h2⟩
      have ne : b ≠ a := fun q => by
        subst q
        obtain ⟨h3, e3⟩ := List.getElem?_eq_some_iff.mp e1
        obtain ⟨h4, e4⟩ := List.getElem?_eq_some_iff.mp hn
        exact hm ((List.getElem_inj R.nd).mp (e3.trans e4.symm))
      rw [upd_ne ne]
      exact h1
end
end Bp


set_option Elab.async false
set_option linter.all false
set_option maxRecDepth 100000
set_option maxHeartbeats 4000000
/-! Bp1: results, their reading over the layer, expressions. -/
namespace Bp
open PySem L2 PyProof.Rows

def Res.bind {α β : Type} (r : Res α) (f : α → Store → Res β) : Res β := match r with
  | .ok a S => f a S
  | .exc e S => .exc e S
  | .bad => .bad
@[simp] theorem Res.bind_ok {α β : Type} (a : α) (S : Store) (f : α → Store → Res β) : (Res.ok a S).bind f = f a S := id rfl
@[simp] theorem Res.bind_exc {α β : Type} (e : Ex) (S : Store) (f : α → Store → Res β) : (Res.exc e S).bind f = .exc e S := id rfl
@[simp] theorem Res.bind_bad {α β : Type} (f : α → Store → Res β) : (Res.bad).bind f = .bad := id rfl

structure RepX (G : Gs) (W : Wd) (e : Ex) (cls : Value) (d : Option Addr) : Prop where
  c : ∃ C, cls = .ref C ∧ G.mg (G.tn.nm e.c) = some (.ref C)
  h0 : e.ks = [] → d = none
  f : ∃ (dd : Addr) (fvs : List (Str × V)), (e.ks ≠ [] → d = some dd ∧ W.F dd = some (.xd fvs)) ∧ fvs.map (·.1) = e.ks.map G.tn.nm ∧ RepL G W e.vs (fvs.map (·.2))

def Ev {α β : Type} (Rp : Wd → α → β → Prop) (G : Gs) (W : Wd) (r : Res α) (Q : β → Hp → Prop) (E : XK) : Prop := match r with
  | .ok a S => ∀ W' b H', Le W W' → Rel G W' S H' → Rp W' a b → Q b H'
  | .exc e S => ∀ W' cls d H', Le W W' → Rel G W' S H' → RepX G W' e cls d → E cls d H'
  | .bad => False
section
variable {α β γ δ : Type} {Rp : Wd → α → β → Prop} {Rq : Wd → γ → δ → Prop} {G : Gs} {W W' : Wd} {r : Res α} {E : XK}
theorem Ev.mono {Q : β → Hp → Prop} (h : Ev Rp G W r Q E) (l : Le W W') : Ev Rp G W' r Q E := by
  cases r with
  | ok a S => exact fun W2 b H' l2 => h W2 b H' (l.trans l2)
  | exc e S => exact fun W2 c d H' l2 => h W2 c d H' (l.trans l2)
  | bad => exact h
theorem Ev.imp {Q Q' : β → Hp → Prop} (h : Ev Rp G W r Q E) (q : ∀ b H, Q b H → Q' b H) : Ev Rp G W r Q' E := by
  cases r with
  | ok a S => exact fun W2 b H' l2 R2 r2 => q _ _ (h W2 b H' l2 R2 r2)
  | exc e S => exact h
  | bad => exact h
theorem Ev.seq {f : α → Store → Res γ} {Q : δ → Hp → Prop} (h : Ev Rq G W (r.bind f) Q E) :
    Ev Rp G W r (fun b H' => ∃ W' a S', Le W W' ∧ Rel G W' S' H' ∧ Rp W' a b ∧ Ev Rq G W' (f a S') Q E) E := by
  cases r with
  | ok a S => exact fun W2 b H' l2 R2 r2 => ⟨W2, a, S, l2, R2, r2, Ev.mono h l2⟩
  | exc e S => exact h
  | bad => exact h
end

abbrev Xh := Option (Addr × Value × Option Addr)
structure Pm where
  tn : Tn
  x : Xh := none
structure RepE (G : Gs) (x : Xh) (W : Wd) (env : Env) (σ : L2.St) : Prop where
  hx : ∀ i, x = some i → G.x = some i
  len : env.length = σ.length
  at_ : ∀ (i : Nat) (d : D), env[i]? = some (some d) → ∃ v, σ[i]? = some (some v) ∧ RepV G W d v
theorem RepE.mono {G : Gs} {x : Xh} {W W' : Wd} {env : Env} {σ : L2.St} (r : RepE G x W env σ) (l : Le W W') : RepE G x W' env σ :=
  ⟨r.hx, r.len, fun i d h => let ⟨v, h1, h2⟩ := r.at_ i d h; ⟨v, h1, h2.mono l⟩⟩
theorem RepE.set {G : Gs} {x : Xh} {W : Wd} {env : Env} {σ : L2.St} (r : RepE G x W env σ) {d : D} {v : V} (rv : RepV G W d v) (i : Nat) : RepE G x W (env.set i (some d)) (σ.set i (some v)) := by
  refine ⟨r.hx, by rw [List.length_set, List.length_set]; exact r.len, fun j e h => ?_⟩
  by_cases hj : i = j
  · subst hj
    have hlt : i < env.length := by
      have := (List.getElem?_eq_some_iff.mp h).1
      rwa [List.length_set] at this
    rw [List.getElem?_set_self hlt] at h
    cases h
    exact ⟨v, List.getElem?_set_self (by rw [← r.len]; exact hlt), rv⟩
  · rw [List.getElem?_set_ne hj] at h
    obtain ⟨u, h1, h2⟩ := r.at_ j e h
    exact ⟨u, by rw [List.getElem?_set_ne hj]; exact h1, h2⟩
theorem RepE.unset {G : Gs} {x : Xh} {W : Wd} {env : Env} {σ : L2.St} (r : RepE G x W env σ) (i : Nat) (o : Option V) : RepE G x W (env.set i none) (σ.set i o) := by
  refine ⟨r.hx, by rw [List.length_set, List.length_set]; exact r.len, fun j e h => ?_⟩
  by_cases hj : i = j
  · subst hj
    have hlt : i < env.length := by
      have := (List.getElem?_eq_some_iff.mp h).1
      rwa [List.length_set] at this
    rw [List.getElem?_set_self hlt] at h
    cases h
  · rw [List.getElem?_set_ne hj] at h
    obtain ⟨u, h1, h2⟩ := r.at_ j e h
    exact ⟨u, by rw [List.getElem?_set_ne hj]; exact h1, h2⟩

def Tx {α β : Type} (Rp : Wd → α → β → Prop) (G : Gs) (x : Xh) (Wx : WX) (m : Env → Store → Res α) : L2.St → Hp → (β → Hp → Prop) → Prop :=
  fun σ H Q => ∃ W env S, Rel G W S H ∧ RepE G x W env σ ∧ Ev Rp G W (m env S) Q (fun c d H => Wx c d σ H)
abbrev RpB : Wd → Bool → Bool → Prop := fun _ a b => a = b
abbrev RpO : Wd → Option Int → Option Int → Prop := fun _ a b => a = b
abbrev T (G : Gs) (x : Xh) (Wx : WX) (m : ME) : TE := Tx (RepV G) G x Wx m
abbrev TL (G : Gs) (x : Xh) (Wx : WX) (m : MA) : TA := Tx (RepL G) G x Wx m
abbrev TB (G : Gs) (x : Xh) (Wx : WX) (m : Env → Store → Res Bool) : TT := Tx RpB G x Wx m
abbrev gx (X : Cx) (fl : Pm) : Gs := ⟨X.K, X.mg, fl.tn, fl.x⟩
section
variable (fl : Pm) (X : Cx) (Wx : WX)
def EX (e : Expr) (m : ME) : Prop := PE X e (T (gx X fl) fl.x Wx m)
def ET (e : Expr) (m : Env → Store → Res Bool) : Prop := PT X e (TB (gx X fl) fl.x Wx m)
def EW (e : Expr) (m : Env → Store → Res Bool) : Prop := PW X e (TB (gx X fl) fl.x Wx m)
end

/-! ### mirrors -/
def mC (d : D) : ME := fun _ S => .ok d S
def mVar (i : Nat) : ME := fun env S => match env[i]? with
  | some (some d) => .ok d S
  | _ => .bad
def mBin (f : D → D → Store → Res D) (ma mb : ME) : ME := fun env S => (ma env S).bind fun a S1 => (mb env S1).bind fun b S2 => f a b S2
def mUn (f : D → Store → Res D) (ma : ME) : ME := fun env S => (ma env S).bind f
def mArgs : List ME → MA
  | [] => fun _ S => .ok [] S
  | m :: ms => fun env S => (m env S).bind fun d S1 => (mArgs ms env S1).bind fun ds S2 => .ok (d :: ds) S2
theorem mArgs_len : ∀ {ms : List ME} {env : Env} {S S' : Store} {ds : List D}, mArgs ms env S = .ok ds S' → ds.length = ms.length
  | [], env, S, S', ds, h => by
    simp only [mArgs, Res.ok.injEq] at h
    rw [← h.1]; rfl
  | m :: ms, env, S, S', ds, h => by
    simp only [mArgs] at h
    cases e : m env S with
    | ok d S1 =>
      rw [e, Res.bind_ok] at h
      cases e2 : mArgs ms env S1 with
      | ok ds' S2 =>
        rw [e2, Res.bind_ok] at h
        simp only [Res.ok.injEq] at h
        rw [← h.1, List.length_cons, List.length_cons, mArgs_len e2]
      | exc _ _ => rw [e2] at h; simp at h
      | bad => rw [e2] at h; simp at h
    | exc _ _ => rw [e] at h; simp at h
    | bad => rw [e] at h; simp at h
def mTup (ms : List ME) : ME := fun env S => (mArgs ms env S).bind fun ds S' => .ok (.tup ds) S'
def mLst (ms : List ME) : ME := fun env S => (mArgs ms env S).bind fun ds S' => .ok (.ref S'.length) (S' ++ [.lst ds])
def mIf (c : Env → Store → Res Bool) (ma mb : ME) : ME := fun env S => (c env S).bind fun k S1 => if k = true then ma env S1 else mb env S1
abbrev MT := Env → Store → Res Bool
def mAnd (a b : MT) : MT := fun env S => (a env S).bind fun k S1 => if k = true then b env S1 else .ok false S1
def mOr (a b : MT) : MT := fun env S => (a env S).bind fun k S1 => if k = true then .ok true S1 else b env S1
def mNot (a : MT) : MT := fun env S => (a env S).bind fun k S1 => .ok (!k) S1
def asB (d : D) (S : Store) : Res Bool := match d with
  | .bl b => .ok b S
  | _ => .bad
def mB (m : ME) : MT := fun env S => (m env S).bind asB
def mAndV (a b : ME) : ME := fun env S => (a env S).bind fun d S1 => match d with
  | .bl true => b env S1
  | .bl false => .ok (.bl false) S1
  | _ => .bad
def mOrV (a b : ME) : ME := fun env S => (a env S).bind fun d S1 => match d with
  | .bl true => .ok (.bl true) S1
  | .bl false => b env S1
  | _ => .bad
def notD (d : D) (S : Store) : Res D := match d with
  | .bl b => .ok (.bl (!b)) S
  | _ => .bad

/-! ### the rules -/
theorem PE.imp {X : Cx} {e : Expr} {t t' : TE} (h : PE X e t) (c : ∀ σ H Q, t' σ H Q → t σ H Q) : PE X e t' := ⟨fun pins s σ H Q I q => h.run pins s σ H Q I (c σ H Q q)⟩
theorem PT.imp {X : Cx} {e : Expr} {t t' : TT} (h : PT X e t) (c : ∀ σ H Q, t' σ H Q → t σ H Q) : PT X e t' := ⟨fun pins s σ H Q I q => h.run pins s σ H Q I (c σ H Q q)⟩
theorem PA.imp {X : Cx} {es : List Expr} {t t' : TA} (h : PA X es t) (c : ∀ σ H Q, t' σ H Q → t σ H Q) : PA X es t' := ⟨fun pos pins s σ H Q I q => h.run pos pins s σ H Q I (c σ H Q q)⟩
section
variable {fl : Pm} {X : Cx} {Wx : WX} {a b c e : Expr} {es rest : List Expr} {ma mb mc me : ME} {ms : List ME} {ta tb : MT} {pos : Pos}
theorem EX.run (h : EX fl X Wx e me) {pins : List (Addr × Obj)} {s : Shared} {σ : L2.St} {H : Hp} {W : Wd} {env : Env} {S : Store} {Q : VK} (I : Inv X pins σ H s) (R : Rel (gx X fl) W S H) (RE : RepE (gx X fl) fl.x W env σ)
    (q : Ev (RepV (gx X fl)) (gx X fl) W (me env S) Q (fun c d H => Wx c d σ H)) : wpAny (model X.prog X.w) X.A (eval e X.env) (EP X pins σ Q) X.xe s := PE.run h pins s σ H Q I ⟨W, env, S, R, RE, q⟩
theorem ex_c {d : D} {v : V} (h : PE X e (tC v)) (r : ∀ W, RepV (gx X fl) W d v) : EX fl X Wx e (mC d) := PE.imp h fun σ H Q ⟨W, env, S, R, RE, q⟩ => q W v H (.refl W) R (r W)
theorem ex_int {i : Int} {j : Nat} : EX fl X Wx (.Constant (.int i) j pos) (mC (.int i)) := ex_c pe_int fun _ => .int i
theorem ex_bl {k : Bool} {j : Nat} : EX fl X Wx (.Constant (.bool k) j pos) (mC (.bl k)) := ex_c pe_bl fun _ => .bl k
theorem ex_non {j : Nat} : EX fl X Wx (.Constant .none j pos) (mC .non) := ex_c pe_non fun _ => .non
theorem ex_str {x : Str} {j : Nat} : EX fl X Wx (.Constant (.str x) j pos) (mC (.str x)) := ex_c pe_str fun _ => .str x
theorem ex_glob {x : Str} {A : Addr} (n : Nat) (hn : fl.tn.nm n = x) (hg : Gl X x) (hm : X.mg x = some (.ref A)) (hd : (x == ("__debug__" : Str)) = false := by decide) : EX fl X Wx (.Name x pos) (mC (.glob n)) := ex_c (pe_glob hg hm (v := .ref A) rfl hd) fun _ => .glob n A (by show X.mg (fl.tn.nm n) = _; rw [hn]; exact hm)
theorem ex_ty {x : Str} {n : String} (hg : Gl X x) (hm : X.mg x = none) (hv : bootBuiltins x = some (.type n)) (hn : x ≠ "__name__" := by decide) (hd : (x == ("__debug__" : Str)) = false := by decide) : EX fl X Wx (.Name x pos) (mC (.ty n)) :=
  ex_c (pe_bltn hg hm hv (v := .ty n) rfl hn hd) fun _ => .ty n
theorem ex_var (i : Nat) {x : Str} (hN : X.N[i]? = some x := by rfl) (hv : Vis X.env.scope x := by first | exact Or.inl rfl | exact Or.inr (Or.inl rfl) | exact Or.inr (Or.inr rfl)) (hd : (x == ("__debug__" : Str)) = false := by decide)
    (hcd : (x == ("__classdict__" : Str)) = false := by decide) : EX fl X Wx (.Name x pos) (mVar i) := by
  refine PE.imp (pe_var hN hv hd hcd) fun σ H Q ⟨W, env, S, R, RE, q⟩ => ?_
  unfold mVar at q
  split at q
  · rename_i d hd'
    obtain ⟨v, h1, h2⟩ := RE.at_ i d hd'
    exact ⟨v, h1, q W v H (.refl W) R h2⟩
  · exact q.elim
def Bin2 (fl : Pm) (X : Cx) (Wx : WX) (f : Value → Value → Sem Value) (g : D → D → Store → Res D) : Prop :=
  ∀ (pins : List (Addr × Obj)) (s : Shared) (σ : L2.St) (H : Hp) (x y : V) (v u : Value) (W : Wd) (a b : D) (S : Store) (Q : VK), Inv X pins σ H s → RelV x v → RelV y u → Rel (gx X fl) W S H → RepV (gx X fl) W a x → RepV (gx X fl) W b y →
    Ev (RepV (gx X fl)) (gx X fl) W (g a b S) Q (fun c d H => Wx c d σ H) → wpAny (model X.prog X.w) X.A (f v u) (EP X pins σ Q) X.xe s
def Un1 (fl : Pm) (X : Cx) (Wx : WX) (f : Value → Sem Value) (g : D → Store → Res D) : Prop :=
  ∀ (pins : List (Addr × Obj)) (s : Shared) (σ : L2.St) (H : Hp) (x : V) (v : Value) (W : Wd) (a : D) (S : Store) (Q : VK), Inv X pins σ H s → RelV x v → Rel (gx X fl) W S H → RepV (gx X fl) W a x →
    Ev (RepV (gx X fl)) (gx X fl) W (g a S) Q (fun c d H => Wx c d σ H) → wpAny (model X.prog X.w) X.A (f v) (EP X pins σ Q) X.xe s
theorem bin_run {f : Value → Value → Sem Value} {g : D → D → Store → Res D} (ho : Bin2 fl X Wx f g) (ha : EX fl X Wx a ma) (hb : EX fl X Wx b mb) {pins : List (Addr × Obj)} {s : Shared} {σ : L2.St} {H : Hp} {W : Wd} {env : Env} {S : Store} {Q : VK} (I : Inv X pins σ H s) (R : Rel (gx X fl) W S H) (RE : RepE (gx X fl) fl.x W env σ)
    (q : Ev (RepV (gx X fl)) (gx X fl) W (mBin g ma mb env S) Q (fun c d H => Wx c d σ H)) :
    wpAny (model X.prog X.w) X.A (eval a X.env) (fun v s₁ => wpAny (model X.prog X.w) X.A (eval b X.env) (fun u s₂ => wpAny (model X.prog X.w) X.A (f v u) (EP X pins σ Q) X.xe s₂) X.xe s₁) X.xe s := by
  refine thn (ha.run I R RE (Ev.seq q)) fun v s1 ⟨x, H1, I1, r1, W1, d1, S1, l1, R1, ra, q1⟩ => ?_
  refine thn (hb.run I1 R1 (RE.mono l1) (Ev.seq q1)) fun u s2 ⟨y, H2, I2, r2, W2, d2, S2, l2, R2, rb, q2⟩ => ?_
  exact ho pins s2 σ H2 x y v u W2 d1 d2 S2 Q I2 r1 r2 R2 (ra.mono l2) rb q2
theorem ex_bin {op : Operator} {g : D → D → Store → Res D} (ho : Bin2 fl X Wx (binaryOp op) g) (ha : EX fl X Wx a ma) (hb : EX fl X Wx b mb) : EX fl X Wx (.BinOp a op b pos) (mBin g ma mb) :=
  ⟨fun pins s σ H Q I ⟨W, env, S, R, RE, q⟩ => wpAny_BinOp (bin_run ho ha hb I R RE q)⟩
theorem ex_cmp {op : CmpOp} {g : D → D → Store → Res D} (ho : Bin2 fl X Wx (compareOp op) g) (ha : EX fl X Wx a ma) (hb : EX fl X Wx b mb) (hm : behindInMarks op b = false) : EX fl X Wx (.Compare a [op] [b] pos) (mBin g ma mb) :=
  ⟨fun pins s σ H Q I ⟨W, env, S, R, RE, q⟩ => wpAny_Compare1 (bin_run ho ha hb I R RE q) hm⟩
theorem asB_ok {G : Gs} {W : Wd} {d : D} {S : Store} {v : V} {H : Hp} {Q : Bool → Hp → Prop} {E : XK} (r : RepV G W d v) (R : Rel G W S H) (q : Ev RpB G W (asB d S) Q E) : ∃ k, v = .bl k ∧ Q k H := by
  cases r with
  | bl b => exact ⟨b, rfl, q W b H (.refl W) R rfl⟩
  | _ => exact (show False from q).elim
theorem et_cmp {op : CmpOp} {g : D → D → Store → Res D} (ho : Bin2 fl X Wx (compareOp op) g) (ha : EX fl X Wx a ma) (hb : EX fl X Wx b mb) (hm : behindInMarks op b = false) : ET fl X Wx (.Compare a [op] [b] pos) (mB (mBin g ma mb)) := by
  refine ⟨fun pins s σ H Q I ⟨W, env, S, R, RE, q⟩ => ?_⟩
  refine wpAny_isTrue_Compare1 (thn (bin_run (Q := fun v H' => ∃ k, v = .bl k ∧ Q k H') ho ha hb I R RE (Ev.imp (Ev.seq q) fun v H' ⟨W', d, S', l, R', r, q'⟩ => asB_ok r R' q')) fun v s1 h1 => thn h1 fun u s2 h2 => thn h2 fun w' s3 h3 => ?_) hm
  obtain ⟨z, H3, I3, r3, k, rfl, q3⟩ := h3
  cases r3
  exact wpAny_truthy_bool ⟨H3, I3, q3⟩
theorem ex_un {op : UnaryOp} {g : D → Store → Res D} (ho : Un1 fl X Wx (unaryOp op) g) (ha : EX fl X Wx a ma) : EX fl X Wx (.UnaryOp op a pos) (mUn g ma) := by
  refine ⟨fun pins s σ H Q I ⟨W, env, S, R, RE, q⟩ => ?_⟩
  exact UnaryOp_ (thn (ha.run I R RE (Ev.seq q)) fun v s1 ⟨x, H1, I1, r1, W1, d1, S1, l1, R1, ra, q1⟩ => ho pins s1 σ H1 x v W1 d1 S1 Q I1 r1 R1 ra q1)
def EA (fl : Pm) (X : Cx) (Wx : WX) (es : List Expr) (ms : List ME) : Prop := PA X es (TL (gx X fl) fl.x Wx (mArgs ms))
theorem ea_nil : EA fl X Wx [] [] := PA.imp pa_nil fun σ H Q ⟨W, env, S, R, RE, q⟩ => q W [] H (.refl W) R .nil
theorem ea_cons (ha : EX fl X Wx e me) (hr : EA fl X Wx es ms) (hs : starEach (e :: es) X.env = (false, eval e X.env) :: starEach es X.env := by rfl) : EA fl X Wx (e :: es) (me :: ms) := by
  refine PA.imp (pa_cons ha hr hs) fun σ H Q ⟨W, env, S, R, RE, q⟩ => ?_
  refine ⟨W, env, S, R, RE, Ev.imp (Ev.seq (show Ev _ _ _ ((me env S).bind _) _ _ from q)) fun v H1 ⟨W1, d, S1, l1, R1, r1, q1⟩ => ?_⟩
  refine ⟨W1, env, S1, R1, RE.mono l1, Ev.imp (Ev.seq q1) fun vs H2 ⟨W2, ds, S2, l2, R2, r2, q2⟩ => ?_⟩
  exact q2 W2 (v :: vs) H2 (.refl W2) R2 (.cons (r1.mono l2) r2)
theorem EA.run (h : EA fl X Wx es ms) {pins : List (Addr × Obj)} {s : Shared} {σ : L2.St} {H : Hp} {W : Wd} {env : Env} {S : Store} {Q : List V → Hp → Prop} (pos : Pos) (I : Inv X pins σ H s) (R : Rel (gx X fl) W S H) (RE : RepE (gx X fl) fl.x W env σ)
    (q : Ev (RepL (gx X fl)) (gx X fl) W (mArgs ms env S) Q (fun c d H => Wx c d σ H)) : wpAny (model X.prog X.w) X.A (spliced (backTo pos (starEach es X.env))) (AP X pins σ Q) X.xe s := PA.run h pos pins s σ H Q I ⟨W, env, S, R, RE, q⟩
theorem Ev.len {G : Gs} {W : Wd} {env : Env} {S : Store} {γ δ : Type} {Rq : Wd → γ → δ → Prop} {f : List D → Store → Res γ} {Q : δ → Hp → Prop} {E : XK} (h : Ev Rq G W ((mArgs ms env S).bind f) Q E) :
    Ev (RepL G) G W (mArgs ms env S) (fun b H' => ∃ W' a S', Le W W' ∧ Rel G W' S' H' ∧ RepL G W' a b ∧ b.length = ms.length ∧ Ev Rq G W' (f a S') Q E) E := by
  cases e : mArgs ms env S with
  | ok a S1 =>
    rw [e] at h
    exact fun W2 b H' l2 R2 r2 => ⟨W2, a, S1, l2, R2, r2, by rw [← r2.length]; exact mArgs_len e, Ev.mono h l2⟩
  | exc x S1 => rw [e] at h; exact h
  | bad => rw [e] at h; exact h
theorem sz1000 {n : Nat} (h : n ≤ 1000) : n ≤ sizeLine := Nat.le_trans h (by rw [sizeLine_eq]; decide)
theorem ex_tup {k : Nat} (ha : EA fl X Wx es ms) (hl : ms.length ≤ 1000 := by decide) : EX fl X Wx (.Tuple es k pos) (mTup ms) := by
  refine PE.imp (pe_tup ha) fun σ H Q ⟨W, env, S, R, RE, q⟩ => ?_
  refine ⟨W, env, S, R, RE, Ev.imp (Ev.len (show Ev _ _ _ ((mArgs ms env S).bind _) _ _ from q)) fun vs H1 ⟨W1, ds, S1, l1, R1, r1, hn, q1⟩ => ?_⟩
  refine ⟨sz1000 (by omega), fun p hp => ?_⟩
  obtain ⟨l2, R2⟩ := R1.fix hp (.tup vs)
  exact q1 _ (.ref p) _ l2 R2 (.tup ds vs p (.inl upd_same) (r1.mono l2))
theorem ex_lst (ha : EA fl X Wx es ms) (hl : ms.length ≤ 1000 := by decide) : EX fl X Wx (.List es pos) (mLst ms) := by
  refine PE.imp (pe_lst ha) fun σ H Q ⟨W, env, S, R, RE, q⟩ => ?_
  refine ⟨W, env, S, R, RE, Ev.imp (Ev.len (show Ev _ _ _ ((mArgs ms env S).bind _) _ _ from q)) fun vs H1 ⟨W1, ds, S1, l1, R1, r1, hn, q1⟩ => ?_⟩
  refine ⟨sz1000 (by omega), fun p hp => ?_⟩
  have l2 : Le W1 ⟨W1.F, W1.μ ++ [p], W1.xs⟩ := ⟨fun _ _ e => e, List.prefix_append _ _, List.prefix_rfl⟩
  obtain ⟨_, R2⟩ := R1.new hp (o := .lst ds) (ho := .lst vs) (.lst ds vs (r1.mono l2))
  refine q1 _ (.ref p) _ l2 R2 (.ref _ p ?_)
  show (W1.μ ++ [p])[S1.length]? = some p
  rw [← R1.len, List.getElem?_append_right (Nat.le_refl _), Nat.sub_self]
  rfl

/-! ### tests -/
theorem et_not (ha : ET fl X Wx a ta) : ET fl X Wx (.UnaryOp .Not a pos) (mNot ta) := by
  refine PT.imp (pt_not ha) fun σ H Q ⟨W, env, S, R, RE, q⟩ => ?_
  refine ⟨W, env, S, R, RE, Ev.imp (Ev.seq (show Ev _ _ _ ((ta env S).bind _) _ _ from q)) fun k H1 ⟨W1, d, S1, l1, R1, r1, q1⟩ => ?_⟩
  cases r1
  exact q1 W1 _ H1 (.refl W1) R1 rfl
theorem EW.et (h : EW fl X Wx e ta) : ET fl X Wx e ta := ⟨h.run _⟩
theorem PW.imp {e : Expr} {t t' : TT} (h : PW X e t) (c : ∀ σ H Q, t' σ H Q → t σ H Q) : PW X e t' := ⟨fun wh pins s σ H Q I q => h.run wh pins s σ H Q I (c σ H Q q)⟩
theorem ew_and1 (ha : ET fl X Wx a ta) : EW fl X Wx (.BoolOp .And [a] pos) ta := pw_and1 ha
theorem ew_or1 (ha : ET fl X Wx a ta) : EW fl X Wx (.BoolOp .Or [a] pos) ta := pw_or1 ha
theorem ew_and (ha : ET fl X Wx a ta) (hb : EW fl X Wx (.BoolOp .And (b :: rest) pos) tb) : EW fl X Wx (.BoolOp .And (a :: b :: rest) pos) (mAnd ta tb) := by
  refine PW.imp (pw_and ha hb) fun σ H Q ⟨W, env, S, R, RE, q⟩ => ?_
  refine ⟨W, env, S, R, RE, Ev.imp (Ev.seq (show Ev _ _ _ ((ta env S).bind _) _ _ from q)) fun k H1 ⟨W1, d, S1, l1, R1, r1, q1⟩ => ?_⟩
  cases r1
  cases k with
  | true => exact ⟨W1, env, S1, R1, RE.mono l1, q1⟩
  | false => exact q1 W1 _ H1 (.refl W1) R1 rfl
theorem ew_or (ha : ET fl X Wx a ta) (hb : EW fl X Wx (.BoolOp .Or (b :: rest) pos) tb) : EW fl X Wx (.BoolOp .Or (a :: b :: rest) pos) (mOr ta tb) := by
  refine PW.imp (pw_or ha hb) fun σ H Q ⟨W, env, S, R, RE, q⟩ => ?_
  refine ⟨W, env, S, R, RE, Ev.imp (Ev.seq (show Ev _ _ _ ((ta env S).bind _) _ _ from q)) fun k H1 ⟨W1, d, S1, l1, R1, r1, q1⟩ => ?_⟩
  cases r1
  cases k with
  | true => exact q1 W1 _ H1 (.refl W1) R1 rfl
  | false => exact ⟨W1, env, S1, R1, RE.mono l1, q1⟩
def truD (d : D) (S : Store) : Res Bool := match d with
  | .non => .ok false S
  | .bl b => .ok b S
  | .int i => .ok (i != 0) S
  | .str x => if x.length ≤ sizeLine then .ok ((x.length : Int) != 0) S else .bad
  | .tup xs => .ok (!xs.isEmpty) S
  | .rl xs => .ok (!xs.isEmpty) S
  | .ref n => match S[n]? with
    | some (.lst xs) => .ok (!xs.isEmpty) S
    | _ => .bad
  | _ => .bad
theorem RepL.isEmpty {G : Gs} {W : Wd} : ∀ {ds : List D} {vs : List V}, RepL G W ds vs → ds.isEmpty = vs.isEmpty
  | _, _, .nil => rfl
  | _, _, .cons _ _ => rfl
theorem truD_ok {W : Wd} {d : D} {S : Store} {v : V} {H : Hp} {Q : Bool → Hp → Prop} {E : XK} {G : Gs} (r : RepV G W d v) (R : Rel G W S H) (q : Ev RpB G W (truD d S) Q E) : ∃ k, TruV G.K v H k ∧ Q k H := by
  cases r with
  | non => exact ⟨false, rfl, q W _ H (.refl W) R rfl⟩
  | bl b => exact ⟨b, rfl, q W _ H (.refl W) R rfl⟩
  | int i => exact ⟨_, rfl, q W _ H (.refl W) R rfl⟩
  | str x =>
    unfold truD at q
    dsimp only at q
    split at q
    · rename_i hz
      exact ⟨_, ⟨hz, rfl⟩, q W _ H (.refl W) R rfl⟩
    · exact q.elim
  | tup xs vs a h rl => exact ⟨_, .inr (.inl ⟨vs, h.sqt R.fr, rfl⟩), by rw [← rl.isEmpty]; exact q W _ H (.refl W) R rfl⟩
  | rl xs vs a h rl => exact ⟨_, .inl ⟨vs, SqL.of (R.fr _ _ h), rfl⟩, by rw [← rl.isEmpty]; exact q W _ H (.refl W) R rfl⟩
  | ref n a h =>
    unfold truD at q
    dsimp only at q
    split at q
    · rename_i xs hx
      obtain ⟨ho, h1, h2⟩ := R.obj n a _ h hx
      cases h2 with
      | lst _ vs rv => exact ⟨_, .inl ⟨vs, SqL.of h1, rfl⟩, by rw [← rv.isEmpty]; exact q W _ H (.refl W) R rfl⟩
    · exact q.elim
  | _ => exact (show False from q).elim
def mTru (m : ME) : MT := fun env S => (m env S).bind truD
theorem et_val (ha : EX fl X Wx a ma) (he : ∀ whole, isTrue a X.env whole = (do let v ← whole; standAt a.pos; holding [v] (truthy v)) := by intro _; rfl) : ET fl X Wx a (mTru ma) := by
  refine PT.imp (pt_truth ha he) fun σ H Q ⟨W, env, S, R, RE, q⟩ => ?_
  exact ⟨W, env, S, R, RE, Ev.imp (Ev.seq (show Ev _ _ _ ((ma env S).bind _) _ _ from q)) fun v H1 ⟨W1, d, S1, l1, R1, r1, q1⟩ => truD_ok r1 R1 q1⟩
/-! ### and, or, not as values -/
theorem ex_one {op : BoolOp} (h : EX fl X Wx a ma) : EX fl X Wx (.BoolOp op [a] pos) ma := pe_one h
theorem ex_and (ha : EX fl X Wx a ma) (hb : EX fl X Wx (.BoolOp .And (b :: rest) pos) mb) : EX fl X Wx (.BoolOp .And (a :: b :: rest) pos) (mAndV ma mb) := by
  refine PE.imp (pe_and ha hb) fun σ H Q ⟨W, env, S, R, RE, q⟩ => ?_
  refine ⟨W, env, S, R, RE, Ev.imp (Ev.seq (show Ev _ _ _ ((ma env S).bind _) _ _ from q)) fun v H1 ⟨W1, d, S1, l1, R1, r1, q1⟩ => ?_⟩
  cases r1 with
  | bl k =>
    refine ⟨k, rfl, ?_⟩
    cases k with
    | true => exact ⟨W1, env, S1, R1, RE.mono l1, q1⟩
    | false => exact q1 W1 _ H1 (.refl W1) R1 (.bl false)
  | _ => exact (show False from q1).elim
end
end Bp


set_option Elab.async false
set_option linter.all false
set_option maxRecDepth 100000
set_option maxHeartbeats 4000000
/-! Bp2: statements, loops, defs. -/
namespace Bp
open PySem L2 PyProof.Rows

inductive RS where
  | nx (env : Env) (S : Store) | rt (d : D) (S : Store) | bk (env : Env) (S : Store) | ct (env : Env) (S : Store) | exc (e : Ex) (env : Env) (S : Store) | bad
abbrev MS := Env → Store → RS
def EvS (G : Gs) (x : Xh) (W : Wd) (r : RS) (D : Ends) (Wx : WX) : Prop := match r with
  | .nx env S => ∀ W' σ' H', Le W W' → Rel G W' S H' → RepE G x W' env σ' → D.nx σ' H'
  | .rt d S => ∀ W' v H', Le W W' → Rel G W' S H' → RepV G W' d v → D.rt v H'
  | .bk env S => ∀ W' σ' H', Le W W' → Rel G W' S H' → RepE G x W' env σ' → D.bk σ' H'
  | .ct env S => ∀ W' σ' H', Le W W' → Rel G W' S H' → RepE G x W' env σ' → D.ct σ' H'
  | .exc e env S => ∀ W' cls d σ' H', Le W W' → Rel G W' S H' → RepX G W' e cls d → RepE G x W' env σ' → Wx cls d σ' H'
  | .bad => False
theorem EvS.mono {G : Gs} {x : Xh} {W W' : Wd} {r : RS} {D : Ends} {Wx : WX} (h : EvS G x W r D Wx) (l : Le W W') : EvS G x W' r D Wx := by
  cases r with
  | nx env S => exact fun W2 a b l2 => h W2 a b (l.trans l2)
  | rt env S => exact fun W2 a b l2 => h W2 a b (l.trans l2)
  | bk env S => exact fun W2 a b l2 => h W2 a b (l.trans l2)
  | ct env S => exact fun W2 a b l2 => h W2 a b (l.trans l2)
  | exc e env S => exact fun W2 a b c d l2 => h W2 a b c d (l.trans l2)
  | bad => exact h
def TSm (G : Gs) (x : Xh) (Wx : WX) (m : MS) : TS := fun D σ H => ∃ W env S, Rel G W S H ∧ RepE G x W env σ ∧ EvS G x W (m env S) D Wx
section
variable (fl : Pm) (X : Cx) (Wx : WX)
def ES (st : Stmt) (m : MS) : Prop := PS X st (TSm (gx X fl) fl.x Wx m)
def ESs (st : List Stmt) (m : MS) : Prop := PSs X st (TSm (gx X fl) fl.x Wx m)
end
theorem PS.imp {X : Cx} {st : Stmt} {t t' : TS} (h : PS X st t) (c : ∀ D σ H, t' D σ H → t D σ H) : PS X st t' := ⟨fun pins s σ H D I q => h.run pins s σ H D I (c D σ H q)⟩
theorem PSs.imp {X : Cx} {st : List Stmt} {t t' : TS} (h : PSs X st t) (c : ∀ D σ H, t' D σ H → t D σ H) : PSs X st t' := ⟨fun pins s σ H D I q => h.run pins s σ H D I (c D σ H q)⟩

def onR {α : Type} (r : Res α) (env : Env) (f : α → Store → RS) : RS := match r with
  | .ok a S => f a S
  | .exc e S => .exc e env S
  | .bad => .bad
@[simp] theorem onR_ok {α : Type} (a : α) (S : Store) (env : Env) (f : α → Store → RS) : onR (.ok a S) env f = f a S := id rfl
@[simp] theorem onR_exc {α : Type} (e : Ex) (S : Store) (env : Env) (f : α → Store → RS) : onR (.exc e S) env f = .exc e env S := id rfl
@[simp] theorem onR_bad {α : Type} (env : Env) (f : α → Store → RS) : onR .bad env f = .bad := id rfl
theorem EvS.on {α β : Type} {Rp : Wd → α → β → Prop} {G : Gs} {x : Xh} {W : Wd} {r : Res α} {env : Env} {σ : L2.St} {f : α → Store → RS} {D : Ends} {Wx : WX} (RE : RepE G x W env σ) (h : EvS G x W (onR r env f) D Wx) :
    Ev Rp G W r (fun b H' => ∃ W' a S', Le W W' ∧ Rel G W' S' H' ∧ Rp W' a b ∧ EvS G x W' (f a S') D Wx) (fun c d H => Wx c d σ H) := by
  cases r with
  | ok a S => exact fun W2 b H' l2 R2 r2 => ⟨W2, a, S, l2, R2, r2, EvS.mono h l2⟩
  | exc e S => exact fun W2 c d H' l2 R2 r2 => h W2 c d σ H' l2 R2 r2 (RE.mono l2)
  | bad => exact h

def mNext : MS := fun env S => .nx env S
def mSeq (a b : MS) : MS := fun env S => match a env S with
  | .nx env' S' => b env' S'
  | r => r
def mAsg (i : Nat) (m : ME) : MS := fun env S => onR (m env S) env fun d S' => .nx (env.set i (some d)) S'
def mRet (m : ME) : MS := fun env S => onR (m env S) env fun d S' => .rt d S'
def mRetN : MS := fun _ S => .rt .non S
def mDrop (m : ME) : MS := fun env S => onR (m env S) env fun _ S' => .nx env S'
def mIfS (c : MT) (a b : MS) : MS := fun env S => onR (c env S) env fun k S' => if k = true then a env S' else b env S'
def mBrk : MS := fun env S => .bk env S
def mCnt : MS := fun env S => .ct env S
section
variable {fl : Pm} {X : Cx} {Wx : WX} {a b c e : Expr} {es rest : List Expr} {ma mb mc me : ME} {ms : List ME} {ta tb : MT} {pos : Pos} {st : Stmt} {sts sts2 : List Stmt} {m m1 m2 : MS}
theorem es_nil : ESs fl X Wx [] mNext := PSs.imp pss_nil fun D σ H ⟨W, env, S, R, RE, q⟩ => q W σ H (.refl W) R RE
theorem es_cons (h1 : ES fl X Wx st m1) (h2 : ESs fl X Wx sts m2) : ESs fl X Wx (st :: sts) (mSeq m1 m2) := by
  refine PSs.imp (pss_cons h1 h2) fun D σ H ⟨W, env, S, R, RE, q⟩ => ⟨W, env, S, R, RE, ?_⟩
  unfold mSeq at q
  cases e : m1 env S with
  | nx env' S' =>
    rw [e] at q
    exact fun W' σ' H' l R' RE' => ⟨W', env', S', R', RE', EvS.mono q l⟩
  | rt d S' => rw [e] at q; exact q
  | bk env' S' => rw [e] at q; exact q
  | ct env' S' => rw [e] at q; exact q
  | exc x env' S' => rw [e] at q; exact q
  | bad => rw [e] at q; exact q
theorem es_one (h1 : ES fl X Wx st m1) : ESs fl X Wx [st] m1 := pss_one h1
theorem es_expr (he : EX fl X Wx e me) (hs : swapsWith e none pos.line X.env = pure false := by rfl) : ES fl X Wx (.Expr e pos) (mDrop me) := by
  refine PS.imp (ps_expr he hs) fun D σ H ⟨W, env, S, R, RE, q⟩ => ⟨W, env, S, R, RE, Ev.imp (EvS.on RE q) fun v H' ⟨W', d, S', l, R', r, q'⟩ => ?_⟩
  exact q' W' σ H' (.refl W') R' (RE.mono l)
theorem es_ret (he : EX fl X Wx e me) : ES fl X Wx (.Return (some e) pos) (mRet me) := by
  refine PS.imp (ps_ret he) fun D σ H ⟨W, env, S, R, RE, q⟩ => ⟨W, env, S, R, RE, Ev.imp (EvS.on RE q) fun v H' ⟨W', d, S', l, R', r, q'⟩ => ?_⟩
  exact q' W' v H' (.refl W') R' r
theorem es_if (hc : ET fl X Wx c ta) (ha : ESs fl X Wx sts m1) (hb : ESs fl X Wx sts2 m2) : ES fl X Wx (.If c sts sts2 pos) (mIfS ta m1 m2) := by
  refine PS.imp (ps_if hc ha hb) fun D σ H ⟨W, env, S, R, RE, q⟩ => ⟨W, env, S, R, RE, Ev.imp (EvS.on RE q) fun k H' ⟨W', d, S', l, R', r, q'⟩ => ?_⟩
  cases r
  cases k with
  | true => exact ⟨W', env, S', R', RE.mono l, q'⟩
  | false => exact ⟨W', env, S', R', RE.mono l, q'⟩
/-! ### targets -/
abbrev MG := D → Env → Store → RS
def EG (fl : Pm) (X : Cx) (Wx : WX) (tg : Expr) (g : MG) : Prop :=
  ∀ (pins : List (Addr × Obj)) (s : Shared) (σ : L2.St) (H : Hp) (v : V) (u : Value) (W : Wd) (d : D) (env : Env) (S : Store) (Q : L2.St → Hp → Prop), Inv X pins σ H s → RelV v u → Rel (gx X fl) W S H → RepE (gx X fl) fl.x W env σ → RepV (gx X fl) W d v →
    EvS (gx X fl) fl.x W (g d env S) { nx := Q, rt := fun _ _ => False } Wx → wpAny (model X.prog X.w) X.A (assign tg X.env u) (fun _ s' => ∃ σ' H', Inv X pins σ' H' s' ∧ Q σ' H') X.xe s
def gNm (i : Nat) : MG := fun d env S => .nx (env.set i (some d)) S
theorem eg_name {i : Nat} {x : Str} (hN : X.N.Nodup) (hi : X.N[i]? = some x) (hx : Loc X.env.scope x) (hf : X.fn x = true ∨ X.env.scope.names.lookup x = some .local := by first | exact .inl rfl | exact .inr rfl | assumption) : EG fl X Wx (.Name x pos) (gNm i) := by
  intro pins s σ H v u W d env S Q I ru R RE rd q
  exact (pg_name hN hi hx hf).run pins s σ H v u Q I ru (q W _ H (.refl W) R (RE.set rd i))
def gTp : List MG → List D → Env → Store → RS
  | [], [], env, S => .nx env S
  | g :: gs, d :: ds, env, S => match g d env S with
    | .nx env' S' => gTp gs ds env' S'
    | r => r
  | _, _, _, _ => .bad
def gTup (gs : List MG) : MG := fun d env S => match d with
  | .tup ds => if ds.length = gs.length then gTp gs ds env S else .bad
  | _ => .bad
def EGs (fl : Pm) (X : Cx) (Wx : WX) (ts : List Expr) (g : List MG) : Prop :=
  ∀ (pins : List (Addr × Obj)) (s : Shared) (σ : L2.St) (H : Hp) (vs : List V) (us : List Value) (W : Wd) (ds : List D) (env : Env) (S : Store) (Q : L2.St → Hp → Prop), Inv X pins σ H s → Vals vs us → Rel (gx X fl) W S H → RepE (gx X fl) fl.x W env σ → RepL (gx X fl) W ds vs →
    EvS (gx X fl) fl.x W (gTp g ds env S) { nx := Q, rt := fun _ _ => False } Wx → wpAny (model X.prog X.w) X.A (assignInOrder ((assignEach ts X.env).map (·.2)) us) (fun _ s' => ∃ σ' H', Inv X pins σ' H' s' ∧ Q σ' H') X.xe s
theorem egs_nil : EGs fl X Wx [] [] := by
  intro pins s σ H vs us W ds env S Q I ru R RE rd q
  cases rd with
  | nil =>
    cases ru
    exact assignInOrder_nil ⟨σ, H, I, q W σ H (.refl W) R RE⟩
  | cons _ _ => exact (show False from q).elim
theorem egs_cons {g : MG} {gs : List MG} (h1 : EG fl X Wx e g) (h2 : EGs fl X Wx es gs)
    (hs : (assignEach (e :: es) X.env).map (·.2) = assign e X.env :: (assignEach es X.env).map (·.2) := by rfl) : EGs fl X Wx (e :: es) (g :: gs) := by
  intro pins s σ H vs us W ds env S Q I ru R RE rd q
  cases rd with
  | nil => exact (show False from q).elim
  | cons r1 rr =>
    cases ru with
    | cons u1 ur =>
      rename_i d v ds vs u us
      rw [hs]
      have q2 : EvS (gx X fl) fl.x W (g d env S) { nx := fun σ' H' => ∃ W' env' S', Le W W' ∧ Rel (gx X fl) W' S' H' ∧ RepE (gx X fl) fl.x W' env' σ' ∧ EvS (gx X fl) fl.x W' (gTp gs ds env' S') { nx := Q, rt := fun _ _ => False } Wx, rt := fun _ _ => False } Wx := by
        have q' : EvS (gx X fl) fl.x W (match g d env S with | .nx env' S' => gTp gs ds env' S' | r => r) { nx := Q, rt := fun _ _ => False } Wx := q
        cases e1 : g d env S with
        | nx env' S' =>
          rw [e1] at q'
          exact fun W' σ' H' l R' RE' => ⟨W', env', S', l, R', RE', EvS.mono q' l⟩
        | rt _ _ => rw [e1] at q'; exact q'
        | bk _ _ => rw [e1] at q'; exact q'
        | ct _ _ => rw [e1] at q'; exact q'
        | exc _ _ _ => rw [e1] at q'; exact q'
        | bad => rw [e1] at q'; exact q'
      refine assignInOrder_cons (thn (h1 pins s σ H v u W d env S _ I u1 R RE r1 q2) fun _ s1 ⟨σ1, H1, I1, W1, env1, S1, l1, R1, RE1, q1⟩ => ?_)
      exact h2 pins s1 σ1 H1 vs us W1 ds env1 S1 Q I1 ur R1 RE1 (rr.mono l1) q1
theorem eg_tup {gs : List MG} {k : Nat} (hc : X.calm = true) (h : EGs fl X Wx es gs) (hlen : es.length = gs.length := by rfl)
    (hn : (assignEach es X.env).length = es.length := by rfl) (hst : (assignEach es X.env).findIdx? (·.1) = none := by rfl) : EG fl X Wx (.Tuple es k pos) (gTup gs) := by
  intro pins s σ H v u W d env S Q I ru R RE rd q
  cases rd with
  | tup xs vs A hA rl =>
    cases ru
    have hq : SqT X.K H A vs := hA.sqt R.fr
    obtain ⟨its, rv, ht, hz⟩ := I.tuple hq
    have hl : xs.length = gs.length := by
      by_cases hl : xs.length = gs.length
      · exact hl
      · exact (show False by unfold gTup at q; dsimp only at q; rw [if_neg hl] at q; exact q).elim
    have q' : EvS (gx X fl) fl.x W (gTp gs xs env S) { nx := Q, rt := fun _ _ => False } Wx := by
      unfold gTup at q; dsimp only at q; rw [if_pos hl] at q; exact q
    refine assign_Tuple_tuple (I.ok.hd hc) ht (by rw [hn, hlen, ← hl, rl.length, rv.length]; simp) hst fun h' hx => ?_
    have I1 : Inv X pins σ H { s with heap := h' } := I.kept (t' := s.toks) fun b o e => hx b o (Nat.ne_of_lt (Heap.lt_size e)) e
    exact h pins _ σ H vs _ W xs env S Q I1 (by simpa using rv) R RE rl q'
  | _ => exact (show False from q).elim
def mAsgG (g : MG) (m : ME) : MS := fun env S => onR (m env S) env fun d S' => g d env S'
theorem es_set {i : Nat} {x : Str} {pos' : Pos} (hN : X.N.Nodup) (hi : X.N[i]? = some x) (hx : Loc X.env.scope x) (he : EX fl X Wx e me) (hs : swapsWith e (some (.Name x pos')) pos.line X.env = pure false := by rfl) (hf : X.fn x = true ∨ X.env.scope.names.lookup x = some .local := by first | exact .inl rfl | exact .inr rfl | assumption) :
    ES fl X Wx (.Assign [.Name x pos'] e pos) (mAsg i me) := by
  refine PS.imp (ps_set hN hi hx he hs hf) fun D σ H ⟨W, env, S, R, RE, q⟩ => ⟨W, env, S, R, RE, Ev.imp (EvS.on RE q) fun v H' ⟨W', d, S', l, R', r, q'⟩ => ?_⟩
  exact q' W' _ H' (.refl W') R' ((RE.mono l).set r i)
def RS.pl : RS → Prop
  | .rt _ _ => False
  | .bk _ _ => False
  | .ct _ _ => False
  | _ => True
def Plain (g : MG) : Prop := ∀ d env S, (g d env S).pl
theorem plain_nm (i : Nat) : Plain (gNm i) := fun _ _ _ => trivial
theorem plain_tp {gs : List MG} (h : ∀ g ∈ gs, Plain g) : ∀ ds env S, (gTp gs ds env S).pl := by
  induction gs with
  | nil => intro ds env S; cases ds <;> exact trivial
  | cons g gs ih =>
    intro ds env S
    cases ds with
    | nil => exact trivial
    | cons d ds =>
      have h1 := h g (by simp) d env S
      show (match g d env S with | .nx env' S' => gTp gs ds env' S' | r => r).pl
      cases e : g d env S with
      | nx env' S' => exact ih (fun g' hg => h g' (by simp [hg])) ds env' S'
      | rt _ _ => rw [e] at h1; exact h1
      | bk _ _ => rw [e] at h1; exact h1
      | ct _ _ => rw [e] at h1; exact h1
      | exc _ _ _ => exact trivial
      | bad => exact trivial
theorem plain_tup {gs : List MG} (h : ∀ g ∈ gs, Plain g) : Plain (gTup gs) := fun d env S => by
  cases d with
  | tup ds =>
    show (if ds.length = gs.length then gTp gs ds env S else .bad).pl
    split
    · exact plain_tp h ds env S
    · exact trivial
  | _ => exact trivial
theorem EvS.plain {G : Gs} {x : Xh} {W : Wd} {g : MG} {d : D} {env : Env} {S : Store} {D' : Ends} {Q : L2.St → Hp → Prop} {Wx : WX} (p : Plain g) (h : EvS G x W (g d env S) D' Wx) (hn : ∀ σ H, D'.nx σ H → Q σ H) : EvS G x W (g d env S) { nx := Q, rt := fun _ _ => False } Wx := by
  have p' := p d env S
  cases e : g d env S with
  | nx env' S' => rw [e] at h; exact fun W' σ' H' l R RE => hn _ _ (h W' σ' H' l R RE)
  | rt _ _ => rw [e] at p'; exact p'.elim
  | bk _ _ => rw [e] at p'; exact p'.elim
  | ct _ _ => rw [e] at p'; exact p'.elim
  | exc _ _ _ => rw [e] at h; exact h
  | bad => rw [e] at h; exact h
theorem es_asg {tg : Expr} {g : MG} (he : EX fl X Wx e me) (hg : EG fl X Wx tg g) (hp : Plain g) (hs : swapsWithSole [tg] e pos.line X.env = pure false := by rfl) (hw : swappedStores [tg] e X.env = pure none := by rfl)
    (h1 : (assignEach [tg] X.env).map (·.2) = [assign tg X.env] := by rfl) : ES fl X Wx (.Assign [tg] e pos) (mAsgG g me) := by
  refine ⟨fun pins s σ H D I ⟨W, env, S, R, RE, q⟩ => ?_⟩
  refine wpAny_Assign_stores (thn (he.run I R RE (EvS.on RE q)) fun v s1 ⟨x, H1, I1, r1, W1, d, S1, l1, R1, rd, q1⟩ => ?_) hs hw
  rw [h1]
  exact thn (hg pins s1 σ H1 x v W1 d env S1 D.nx I1 r1 R1 (RE.mono l1) rd (EvS.plain hp q1 fun _ _ h => h)) fun _ s2 q2 => q2
/-! ### while -/
def whileF (c : MT) (body : MS) : Nat → Env → Store → RS
  | 0, _, _ => .bad
  | n + 1, env, S => onR (c env S) env fun k S1 => if k = true then (match body env S1 with
      | .nx env2 S2 => whileF c body n env2 S2
      | .ct env2 S2 => whileF c body n env2 S2
      | .bk env2 S2 => .nx env2 S2
      | r => r) else .nx env S1
def mWhile (fuel : Env → Store → Nat) (c : MT) (body : MS) : MS := fun env S => whileF c body (fuel env S) env S
theorem es_while {body : List Stmt} {mb : MS} (fuel : Env → Store → Nat) (hp : PassesOwn (model X.prog X.w) X.A X.env X.xe) (hc : ET fl X Wx c ta) (hb : ESs fl X Wx body mb) : ES fl X Wx (.While c body [] pos) (mWhile fuel ta mb) := by
  refine PS.imp (ps_while hp hc hb) fun D σ H ⟨W, env, S, R, RE, q⟩ => ?_
  refine ⟨fun n σ H => ∃ W env S, Rel (gx X fl) W S H ∧ RepE (gx X fl) fl.x W env σ ∧ EvS (gx X fl) fl.x W (whileF ta mb n env S) D Wx, ⟨_, W, env, S, R, RE, q⟩, ?_⟩
  rintro n σ H ⟨W, env, S, R, RE, q⟩
  cases n with
  | zero => exact (show False from q).elim
  | succ n =>
    refine ⟨W, env, S, R, RE, Ev.imp (EvS.on RE (show EvS _ _ _ (onR (ta env S) env _) _ _ from q)) fun k H' ⟨W', d, S', l, R', r, q'⟩ => ?_⟩
    cases r
    cases k with
    | false =>
      rw [if_neg Bool.false_ne_true] at q' ⊢
      exact q' W' σ H' (.refl W') R' (RE.mono l)
    | true =>
      rw [if_pos rfl] at q' ⊢
      refine ⟨fun σ' H' => ∃ W env S, Rel (gx X fl) W S H' ∧ RepE (gx X fl) fl.x W env σ' ∧ EvS (gx X fl) fl.x W (whileF ta mb n env S) D Wx, fun σ' H' h => ⟨n, Nat.lt_succ_self n, h⟩, W', env, S', R', RE.mono l, ?_⟩
      cases e : mb env S' with
      | nx env2 S2 => rw [e] at q'; exact fun W2 σ2 H2 l2 R2 RE2 => ⟨W2, env2, S2, R2, RE2, EvS.mono q' l2⟩
      | ct env2 S2 => rw [e] at q'; exact fun W2 σ2 H2 l2 R2 RE2 => ⟨W2, env2, S2, R2, RE2, EvS.mono q' l2⟩
      | bk env2 S2 => rw [e] at q'; exact q'
      | rt _ _ => rw [e] at q'; exact q'
      | exc _ _ _ => rw [e] at q'; exact q'
      | bad => rw [e] at q'; exact q'
/-! ### for -/
def forL (g : MG) (body : MS) : List D → Env → Store → RS
  | [], env, S => .nx env S
  | d :: ds, env, S => match g d env S with
    | .nx env1 S1 => (match body env1 S1 with
      | .nx env2 S2 => forL g body ds env2 S2
      | .ct env2 S2 => forL g body ds env2 S2
      | .bk env2 S2 => .nx env2 S2
      | r => r)
    | r => r
def forS (g : MG) (body : MS) (n : Nat) : Nat → Nat → Env → Store → RS
  | 0, i, env, S => (match S[n]? with
    | some (.lst xs) => if xs.length ≤ i then .nx env S else .bad
    | _ => .bad)
  | k + 1, i, env, S => match S[n]? with
    | some (.lst xs) => (match xs[i]? with
      | some d => (match g d env S with
        | .nx env1 S1 => (match body env1 S1 with
          | .nx env2 S2 => forS g body n k (i + 1) env2 S2
          | .ct env2 S2 => forS g body n k (i + 1) env2 S2
          | .bk env2 S2 => .nx env2 S2
          | r => r)
        | r => r)
      | none => .nx env S)
    | _ => .bad
inductive Wk where
  | items (xs : List D) | at_ (n : Nat) | zip (a b : Wk) | enum (a : Wk)
def Wk.it : Wk → Store → Nat → Option (Option D)
  | .items xs, _, i => some xs[i]?
  | .at_ n, S, i => match S[n]? with
    | some (.lst xs) => some xs[i]?
    | _ => none
  | .zip a b, S, i => match a.it S i, b.it S i with
    | some (some x), some (some y) => some (some (.tup [x, y]))
    | some none, some _ => some none
    | some _, some none => some none
    | _, _ => none
  | .enum a, S, i => match a.it S i with
    | some (some x) => some (some (.tup [.int i, x]))
    | some none => some none
    | none => none
def Wk.len : Wk → Store → Nat
  | .items xs, _ => xs.length
  | .at_ n, S => match S[n]? with
    | some (.lst xs) => xs.length
    | _ => 0
  | .zip a b, S => min (a.len S) (b.len S)
  | .enum a, S => a.len S
def forG (g : MG) (body : MS) (w : Wk) : Nat → Nat → Env → Store → RS
  | 0, i, env, S => (match w.it S i with
    | some none => .nx env S
    | _ => .bad)
  | k + 1, i, env, S => match w.it S i with
    | none => .bad
    | some none => .nx env S
    | some (some d) => (match g d env S with
      | .nx env1 S1 => (match body env1 S1 with
        | .nx env2 S2 => forG g body w k (i + 1) env2 S2
        | .ct env2 S2 => forG g body w k (i + 1) env2 S2
        | .bk env2 S2 => .nx env2 S2
        | r => r)
      | r => r)
def mForW (g : MG) (body : MS) (w : Wk) : MS := fun env S => match w with
  | .items xs => forL g body xs env S
  | .at_ n => (match S[n]? with
    | some (.lst xs) => forS g body n xs.length 0 env S
    | _ => .bad)
  | .zip a b => forG g body (.zip a b) ((Wk.zip a b).len S) 0 env S
  | .enum a => forG g body (.enum a) (a.len S) 0 env S
def mFor (it : Env → Store → Res Wk) (g : MG) (body : MS) : MS := fun env S => onR (it env S) env fun w S' => mForW g body w env S'
def RepW (G : Gs) (W : Wd) (w : Wk) (J : It) : Prop := ∀ (i : Nat) (W' : Wd) (S' : Store) (H' : Hp), Le W W' → Rel G W' S' H' →
  (∀ d, w.it S' i = some (some d) → J.go i H' ∧ ∀ v H2, J.yld i H' v H2 → ∃ W2, Le W' W2 ∧ Rel G W2 S' H2 ∧ RepV G W2 d v) ∧ (w.it S' i = some none → J.stop i H')
def RepI (G : Gs) (W : Wd) : Wk → It → Prop
  | .items xs, J => ∀ (i : Nat) (W' : Wd) (S' : Store) (H' : Hp), Le W W' → Rel G W' S' H' → (∀ d, xs[i]? = some d → J.go i H' ∧ ∀ v H2, J.yld i H' v H2 → ∃ W2, Le W' W2 ∧ Rel G W2 S' H2 ∧ RepV G W2 d v) ∧ (xs[i]? = none → J.stop i H')
  | .at_ n, J => ∃ a, W.μ[n]? = some a ∧ J = Itl G.K a
  | .zip a b, J => RepW G W (.zip a b) J
  | .enum a, J => RepW G W (.enum a) J
theorem RepI.gen {G : Gs} {W : Wd} {w : Wk} {J : It} (h : RepI G W w J) : RepW G W w J := by
  cases w with
  | items xs =>
    intro i W' S' H' l R
    obtain ⟨h1, h2⟩ := h i W' S' H' l R
    exact ⟨fun d hd => h1 d (Option.some.inj hd), fun hn => h2 (Option.some.inj hn)⟩
  | at_ n =>
    intro i W' S' H' l R
    obtain ⟨a, ha, rfl⟩ := h
    have ha' := l.at ha
    show (∀ d, (match S'[n]? with | some (.lst xs) => some xs[i]? | _ => none) = some (some d) → _) ∧ ((match S'[n]? with | some (.lst xs) => some xs[i]? | _ => none) = some none → _)
    obtain ⟨o, ho⟩ := R.at ha'
    rw [ho]
    cases o with
    | obj c fs => exact ⟨fun d hd => (nomatch hd), fun hn => (nomatch hn)⟩
    | dic kvs => exact ⟨fun d hd => (nomatch hd), fun hn => (nomatch hn)⟩
    | dead => exact ⟨fun d hd => (nomatch hd), fun hn => (nomatch hn)⟩
    | lst xs =>
      obtain ⟨u, h1, h2⟩ := R.obj n a _ ha' ho
      cases h2 with
      | lst _ vs rv =>
        refine ⟨fun d hd => ?_, fun hn => ⟨vs, SqL.of h1, by rw [← rv.length]; exact List.getElem?_eq_none_iff.mp (Option.some.inj hn)⟩⟩
        obtain ⟨v, hv, rdv⟩ := rv.get (Option.some.inj hd)
        refine ⟨⟨vs, v, SqL.of h1, hv⟩, fun v' H2 y => ?_⟩
        obtain ⟨rfl, y⟩ := y
        have := y vs (SqL.of h1)
        rw [hv] at this
        cases this
        exact ⟨W', .refl W', R, rdv⟩
  | zip a b => exact h
  | enum a => exact h
def EI (fl : Pm) (X : Cx) (Wx : WX) (tg iter : Expr) (it : Env → Store → Res Wk) : Prop :=
  PI X tg iter (fun σ H R => ∃ W env S, Rel (gx X fl) W S H ∧ RepE (gx X fl) fl.x W env σ ∧ Ev (fun W w J => RepI (gx X fl) W w J) (gx X fl) W (it env S) (fun J H' => R J H') (fun c d H => Wx c d σ H))
theorem es_for {tg iter : Expr} {it : Env → Store → Res Wk} {g : MG} {body : List Stmt} {mb : MS} (hp : PassesOwn (model X.prog X.w) X.A X.env X.xe) (hc : X.calm = true) (hi : EI fl X Wx tg iter it) (hg : EG fl X Wx tg g) (hpl : Plain g) (hb : ESs fl X Wx body mb)
    (hs : ∀ x, foldedSetIterable iter X.env x = pure x := by intro _; rfl) : ES fl X Wx (.For tg iter body [] pos) (mFor it g mb) := by
  let tg0 : TG := fun v σ H Q => ∃ W d env S, Rel (gx X fl) W S H ∧ RepE (gx X fl) fl.x W env σ ∧ RepV (gx X fl) W d v ∧ EvS (gx X fl) fl.x W (g d env S) { nx := Q, rt := fun _ _ => False } Wx
  have hg' : PG X tg tg0 := ⟨fun pins s σ H v u Q I ru ⟨W, d, env, S, R, RE, rd, q⟩ => hg pins s σ H v u W d env S Q I ru R RE rd q⟩
  refine PS.imp (ps_for hp hc hi hg' hb hs) fun D σ H ⟨W, env, S, R, RE, q⟩ => ?_
  refine ⟨W, env, S, R, RE, Ev.imp (EvS.on RE q) fun J H1 ⟨W1, w, S1, l1, R1, r1, q1⟩ => ?_⟩
  have RE1 := RE.mono l1
  -- one turn, once the item is known
  have turn : ∀ (W : Wd) (d : Bp.D) (env : Env) (S : Store) (σ : L2.St) (H : Hp) (v : V) (N : L2.St → Hp → Prop) (k : Env → Store → RS), Rel (gx X fl) W S H → RepE (gx X fl) fl.x W env σ → RepV (gx X fl) W d v →
      EvS (gx X fl) fl.x W (match g d env S with
        | .nx env1 S1 => (match mb env1 S1 with
          | .nx env2 S2 => k env2 S2
          | .ct env2 S2 => k env2 S2
          | .bk env2 S2 => .nx env2 S2
          | r => r)
        | r => r) D Wx → (∀ W' env' S' σ' H', Le W W' → Rel (gx X fl) W' S' H' → RepE (gx X fl) fl.x W' env' σ' → EvS (gx X fl) fl.x W' (k env' S') D Wx → N σ' H') →
      tg0 v σ H fun σ2 H2 => TSm (gx X fl) fl.x Wx mb { D with nx := N, ct := N, bk := D.nx } σ2 H2 := by
    intro W d env S σ H v N k R RE rd q hN
    refine ⟨W, d, env, S, R, RE, rd, ?_⟩
    have p' := hpl d env S
    cases e : g d env S with
    | nx env1 S1 =>
      rw [e] at q
      dsimp only at q
      intro W2 σ2 H2 l2 R2 RE2
      refine ⟨W2, env1, S1, R2, RE2, ?_⟩
      cases e2 : mb env1 S1 with
      | nx env2 S2 =>
        rw [e2] at q
        exact fun W3 σ3 H3 l3 R3 RE3 => hN W3 env2 S2 σ3 H3 (l2.trans l3) R3 RE3 (EvS.mono q (l2.trans l3))
      | ct env2 S2 =>
        rw [e2] at q
        exact fun W3 σ3 H3 l3 R3 RE3 => hN W3 env2 S2 σ3 H3 (l2.trans l3) R3 RE3 (EvS.mono q (l2.trans l3))
      | bk env2 S2 => rw [e2] at q; exact EvS.mono (x := fl.x) (D := D) (r := .nx env2 S2) q l2
      | rt x S2 => rw [e2] at q; exact EvS.mono (x := fl.x) (D := D) (r := .rt x S2) q l2
      | exc x en S2 => rw [e2] at q; exact EvS.mono (x := fl.x) (D := D) (r := .exc x en S2) q l2
      | bad => rw [e2] at q; exact q
    | rt _ _ => rw [e] at p'; exact p'.elim
    | bk _ _ => rw [e] at p'; exact p'.elim
    | ct _ _ => rw [e] at p'; exact p'.elim
    | exc _ _ _ => rw [e] at q; exact q
    | bad => rw [e] at q; exact q
  have gen : ∀ (w : Wk) (n0 : Nat), RepW (gx X fl) W1 w J → EvS (gx X fl) fl.x W1 (forG g mb w n0 0 env S1) D Wx → ∃ W : Nat → Nat → L2.St → Hp → Prop, (∃ m, W 0 m σ H1) ∧ ∀ i m σ H, W i m σ H → (J.stop i H ∧ D.nx σ H) ∨
      (J.go i H ∧ ∃ N : L2.St → Hp → Prop, (∀ σ' H', N σ' H' → ∃ m', m' < m ∧ W (i + 1) m' σ' H') ∧ ∀ v H', J.yld i H v H' → tg0 v σ H' fun σ2 H2 => TSm (gx X fl) fl.x Wx mb { D with nx := N, ct := N, bk := D.nx } σ2 H2) := by
    intro w n0 hw q0
    refine ⟨fun i m σ H => ∃ W env S, Le W1 W ∧ Rel (gx X fl) W S H ∧ RepE (gx X fl) fl.x W env σ ∧ EvS (gx X fl) fl.x W (forG g mb w m i env S) D Wx, ⟨_, W1, env, S1, .refl W1, R1, RE1, q0⟩, ?_⟩
    rintro i m σ H ⟨W2, env2, S2, l2, R2, RE2, q2⟩
    obtain ⟨hgo, hst⟩ := hw i W2 S2 H l2 R2
    cases m with
    | zero =>
      unfold forG at q2
      split at q2
      · rename_i e
        exact .inl ⟨hst e, q2 W2 σ H (.refl W2) R2 RE2⟩
      · exact q2.elim
    | succ m =>
      unfold forG at q2
      split at q2
      · exact q2.elim
      · rename_i e
        exact .inl ⟨hst e, q2 W2 σ H (.refl W2) R2 RE2⟩
      · rename_i d e
        obtain ⟨go, yl⟩ := hgo d e
        refine .inr ⟨go, fun σ' H' => ∃ W env S, Le W1 W ∧ Rel (gx X fl) W S H' ∧ RepE (gx X fl) fl.x W env σ' ∧ EvS (gx X fl) fl.x W (forG g mb w m (i + 1) env S) D Wx, fun σ' H' h => ⟨m, Nat.lt_succ_self m, h⟩, fun v H' y => ?_⟩
        obtain ⟨W3, l3, R3, r3⟩ := yl v H' y
        exact turn W3 d env2 S2 σ H' v _ (fun en st => forG g mb w m (i + 1) en st) R3 (RE2.mono l3) r3 (EvS.mono q2 l3) fun W' env' S' σ' H' l R RE q => ⟨W', env', S', l2.trans (l3.trans l), R, RE, q⟩
  cases w with
  | items xs =>
    refine ⟨fun i m σ H => m = xs.length - i ∧ i ≤ xs.length ∧ ∃ W env S, Le W1 W ∧ Rel (gx X fl) W S H ∧ RepE (gx X fl) fl.x W env σ ∧ EvS (gx X fl) fl.x W (forL g mb (xs.drop i) env S) D Wx, ⟨xs.length, by simp, Nat.zero_le _, W1, env, S1, .refl W1, R1, RE1, by rw [List.drop_zero]; exact q1⟩, ?_⟩
    rintro i m σ H ⟨rfl, hi, W2, env2, S2, l2, R2, RE2, q2⟩
    obtain ⟨hgo, hstop⟩ := r1 i W2 S2 H l2 R2
    cases e : xs[i]? with
    | none =>
      have hd : xs.drop i = [] := List.drop_of_length_le (List.getElem?_eq_none_iff.mp e)
      rw [hd] at q2
      exact .inl ⟨hstop e, q2 W2 σ H (.refl W2) R2 RE2⟩
    | some d =>
      obtain ⟨hlt, e'⟩ := List.getElem?_eq_some_iff.mp e
      have hd : xs.drop i = d :: xs.drop (i + 1) := by rw [List.drop_eq_getElem_cons hlt, e']
      rw [hd] at q2
      obtain ⟨go, yl⟩ := hgo d e
      refine .inr ⟨go, fun σ' H' => ∃ W env S, Le W1 W ∧ Rel (gx X fl) W S H' ∧ RepE (gx X fl) fl.x W env σ' ∧ EvS (gx X fl) fl.x W (forL g mb (xs.drop (i + 1)) env S) D Wx, fun σ' H' h => ⟨xs.length - (i + 1), by omega, rfl, hlt, h⟩, fun v H' y => ?_⟩
      obtain ⟨W3, l3, R3, r3⟩ := yl v H' y
      exact turn W3 d env2 S2 σ H' v _ (fun en st => forL g mb (xs.drop (i + 1)) en st) R3 (RE2.mono l3) r3 (EvS.mono q2 l3) fun W' env' S' σ' H' l R RE q => ⟨W', env', S', l2.trans (l3.trans l), R, RE, q⟩
  | at_ n =>
    obtain ⟨A, hA, rfl⟩ := r1
    have q1' : EvS (gx X fl) fl.x W1 (match S1[n]? with
      | some (.lst xs) => forS g mb n xs.length 0 env S1
      | _ => .bad) D Wx := q1
    split at q1'
    · rename_i xs0 hx0
      refine ⟨fun i m σ H => ∃ W env S, Le W1 W ∧ Rel (gx X fl) W S H ∧ RepE (gx X fl) fl.x W env σ ∧ EvS (gx X fl) fl.x W (forS g mb n m i env S) D Wx, ⟨_, W1, env, S1, .refl W1, R1, RE1, q1'⟩, ?_⟩
      rintro i m σ H ⟨W2, env2, S2, l2, R2, RE2, q2⟩
      have hA2 := l2.at hA
      cases m with
      | zero =>
        unfold forS at q2
        split at q2
        · rename_i xs hx
          split at q2
          · rename_i hle
            obtain ⟨ho, h1, h2⟩ := R2.obj n A _ hA2 hx
            cases h2 with
            | lst _ vs rv => exact .inl ⟨⟨vs, SqL.of h1, by rw [← rv.length]; exact hle⟩, q2 W2 σ H (.refl W2) R2 RE2⟩
          · exact q2.elim
        · exact q2.elim
      | succ m =>
        unfold forS at q2
        split at q2
        · rename_i xs hx
          obtain ⟨ho, h1, h2⟩ := R2.obj n A _ hA2 hx
          cases h2 with
          | lst _ vs rv =>
            split at q2
            · rename_i d hd
              obtain ⟨v, hv, rdv⟩ := rv.get hd
              refine .inr ⟨⟨vs, v, SqL.of h1, hv⟩, fun σ' H' => ∃ W env S, Le W1 W ∧ Rel (gx X fl) W S H' ∧ RepE (gx X fl) fl.x W env σ' ∧ EvS (gx X fl) fl.x W (forS g mb n m (i + 1) env S) D Wx, fun σ' H' h => ⟨m, Nat.lt_succ_self m, h⟩, fun v' H' y => ?_⟩
              obtain ⟨rfl, y⟩ := y
              have : vs[i]? = some v' := y vs (SqL.of h1)
              rw [hv] at this
              cases this
              exact turn W2 d env2 S2 σ _ v _ (fun en st => forS g mb n m (i + 1) en st) R2 RE2 rdv q2 fun W' env' S' σ' H' l R RE q => ⟨W', env', S', l2.trans l, R, RE, q⟩
            · rename_i hd
              have hle : xs.length ≤ i := List.getElem?_eq_none_iff.mp hd
              exact .inl ⟨⟨vs, SqL.of h1, by rw [← rv.length]; exact hle⟩, q2 W2 σ H (.refl W2) R2 RE2⟩
        · exact q2.elim
    · exact q1'.elim
  | zip a b => exact gen (.zip a b) ((Wk.zip a b).len S1) r1 q1
  | enum a => exact gen (.enum a) (a.len S1) r1 q1
/-! ### what is walked -/
def rangeD (lo : Int) (n : Nat) : List D := (List.range n).map fun i => .int (lo + (i : Nat))
def itR1 (ds : List D) (S : Store) : Res Wk := match ds with
  | [.int j] => if -(2 ^ 62) ≤ j ∧ j < 2 ^ 62 then .ok (.items (rangeD 0 j.toNat)) S else .bad
  | _ => .bad
def itR2 (ds : List D) (S : Store) : Res Wk := match ds with
  | [.int i, .int j] => if -(2 ^ 62) ≤ i ∧ i < 2 ^ 62 ∧ -(2 ^ 62) ≤ j ∧ j < 2 ^ 62 then .ok (.items (rangeD i (j - i).toNat)) S else .bad
  | _ => .bad
def iRange1 (m : ME) : Env → Store → Res Wk := fun env S => (mArgs [m] env S).bind itR1
def iRange2 (m1 m2 : ME) : Env → Store → Res Wk := fun env S => (mArgs [m1, m2] env S).bind itR2
theorem rangeD_at (lo : Int) (n i : Nat) : (rangeD lo n)[i]? = if i < n then some (.int (lo + (i : Nat))) else none := by
  unfold rangeD
  rw [List.getElem?_map]
  by_cases h : i < n
  · rw [List.getElem?_range h, if_pos h]; rfl
  · rw [if_neg h, List.getElem?_eq_none_iff.mpr (by simp; omega)]; rfl
theorem repI_range {G : Gs} {W : Wd} (lo : Int) (n : Nat) : RepI G W (.items (rangeD lo n)) (Itr lo n) := by
  intro i W' S' H' l R
  rw [rangeD_at]
  refine ⟨fun d hd => ?_, fun hd => ?_⟩
  · split at hd
    · rename_i hlt
      refine ⟨hlt, fun v H2 y => ?_⟩
      obtain ⟨rfl, rfl⟩ := y
      cases hd
      exact ⟨W', .refl W', R, .int _⟩
    · cases hd
  · split at hd
    · cases hd
    · rename_i hlt
      show n ≤ i
      omega
theorem ei_range1 {tg : Expr} {p : Pos} (hg : Gl X "range") (hm : X.mg "range" = none) (ha : EA fl X Wx [a] [ma]) (hs : starEach [a] X.env = [(false, eval a X.env)] := by rfl) : EI fl X Wx tg (.Call (.Name "range" p) [a] [] pos) (iRange1 ma) := by
  refine ⟨fun pins s σ H R I h => (pi_range1 hg hm ha hs).run pins s σ H R I ?_⟩
  obtain ⟨W, env, S, RR, RE, q⟩ := h
  refine ⟨W, env, S, RR, RE, Ev.imp (Ev.seq (show Ev _ _ _ ((mArgs [ma] env S).bind _) _ _ from q)) fun vs H1 ⟨W1, ds, S1, l1, R1, r1, q1⟩ => ?_⟩
  unfold itR1 at q1
  split at q1
  · split at q1
    · rename_i j hj
      cases r1 with
      | cons r rr =>
        cases rr
        cases r
        exact ⟨j, rfl, hj.1, hj.2, q1 W1 _ H1 (.refl W1) R1 (repI_range 0 j.toNat)⟩
    · exact q1.elim
  · exact q1.elim
def chars (z : Str) : List D := z.cps.toList.map fun c => .str ⟨#[c]⟩
def itD (d : D) (S : Store) : Res Wk := match d with
  | .str z => .ok (.items (chars z)) S
  | .tup xs => .ok (.items xs) S
  | .rl xs => .ok (.items xs) S
  | .sc xs => .ok (.items xs) S
  | .ref n => (match S[n]? with
    | some (.lst _) => .ok (.at_ n) S
    | _ => .bad)
  | _ => .bad
def iVal (m : ME) : Env → Store → Res Wk := fun env S => (m env S).bind itD
theorem repI_tup {G : Gs} {W : Wd} {xs : List D} {vs : List V} {A : Addr} (h : TupAt G.K W.F A vs) (r : RepL G W xs vs) : RepI G W (.items xs) (Itt G.K A) := by
  intro i W' S' H' l R
  have hH : SqT G.K H' A vs := (h.mono l.F).sqt R.fr
  refine ⟨fun d hd => ?_, fun hd => ?_⟩
  · obtain ⟨v, hv, rv⟩ := r.get hd
    refine ⟨⟨vs, v, hH, hv⟩, fun v' H2 y => ?_⟩
    obtain ⟨rfl, y⟩ := y
    have := y vs hH
    rw [hv] at this
    cases this
    exact ⟨W', .refl W', R, rv.mono l⟩
  · exact ⟨vs, hH, by rw [← r.length]; exact List.getElem?_eq_none_iff.mp hd⟩
theorem repI_rl {G : Gs} {W : Wd} {xs : List D} {vs : List V} {A : Addr} (h : SqL G.K W.F A vs) (r : RepL G W xs vs) : RepI G W (.items xs) (Itl G.K A) := by
  intro i W' S' H' l R
  have hH : SqL G.K H' A vs := sql_mono R.fr (sql_mono l.F h)
  refine ⟨fun d hd => ?_, fun hd => ?_⟩
  · obtain ⟨v, hv, rv⟩ := r.get hd
    refine ⟨⟨vs, v, hH, hv⟩, fun v' H2 y => ?_⟩
    obtain ⟨rfl, y⟩ := y
    have := y vs hH
    rw [hv] at this
    cases this
    exact ⟨W', .refl W', R, rv.mono l⟩
  · exact ⟨vs, hH, by rw [← r.length]; exact List.getElem?_eq_none_iff.mp hd⟩
theorem repI_str {G : Gs} {W : Wd} {z : Str} : RepI G W (.items (chars z)) (Its z) := by
  intro i W' S' H' l R
  refine ⟨fun d hd => ?_, fun hd => ?_⟩
  · unfold chars at hd
    rw [List.getElem?_map, Array.getElem?_toList] at hd
    cases hc : z.cps[i]? with
    | none => rw [hc] at hd; cases hd
    | some c =>
      rw [hc] at hd
      cases hd
      refine ⟨(Array.getElem?_eq_some_iff.mp hc).1, fun v H2 y => ?_⟩
      obtain ⟨rfl, c', hc', rfl⟩ := y
      rw [hc] at hc'
      cases hc'
      exact ⟨W', .refl W', R, .str _⟩
  · unfold chars at hd
    rw [List.getElem?_eq_none_iff, List.length_map, Array.length_toList] at hd
    exact hd
theorem ei_val {tg : Expr} (he : EX fl X Wx e me) : EI fl X Wx tg e (iVal me) := by
  refine ⟨fun pins s σ H R I ⟨W, env, S, RR, RE, q⟩ => ?_⟩
  refine thn (he.run I RR RE (Ev.seq q)) fun v s1 ⟨x, H1, I1, r1, W1, d, S1, l1, R1, rd, q1⟩ => ?_
  have lst : ∀ {A : Addr} {ws : List V}, SqL X.K H1 A ws → R (Itl X.K A) H1 → wpAny (model X.prog X.w) X.A (pyIter (.ref A)) (PIE X pins σ tg R) X.xe s1 := fun {A ws} hq q2 => by
    obtain ⟨its, rv, p, hz⟩ := I1.list hq
    refine wpAny_pyIter_list p.isList ?_
    refine ⟨s1.heap.objs.size, [s1.heap.objs.size], _, _, H1, rfl, I1.kept (t' := s1.toks) fun b o e => Heap.get?_push_of_some _ e, turn_list A _, ⟨_, Heap.get?_push_size _ rfl, rfl, rfl⟩, fun b hb => ?_, q2⟩
    have e : b = s1.heap.objs.size := by simpa using hb
    subst e
    exact I1.fpOk (Nat.le_refl _) (I1.hok.fresh (Nat.le_refl _))
  cases rd with
  | str z =>
    have q2 : R (Its z) H1 := q1 W1 _ H1 (.refl W1) R1 repI_str
    obtain ⟨t, rfl⟩ := r1
    cases ha : z.cps.all (· < 128)
    · exact wpAny_pyIter_wide ha (pi_one (tk := s1.toks) I1 _ (turn_str _ z t "str_iterator" (.inr rfl)) ⟨_, Heap.get?_push_size _ rfl, rfl, rfl⟩ q2)
    · exact wpAny_pyIter_ascii ha (pi_one (tk := s1.toks) I1 _ (turn_str _ z t "str_ascii_iterator" (.inl rfl)) ⟨_, Heap.get?_push_size _ rfl, rfl, rfl⟩ q2)
  | tup xs vs A hA rl =>
    cases r1
    have hq : SqT X.K H1 A vs := hA.sqt R1.fr
    obtain ⟨its, rv, p, hz⟩ := I1.tuple hq
    refine wpAny_pyIter_tuple (show s1.heap.IsTuple A its.toArray from p) ?_
    refine ⟨s1.heap.objs.size, [s1.heap.objs.size], _, _, H1, rfl, I1.kept (t' := s1.toks) fun b o e => Heap.get?_push_of_some _ e, turn_tuple A _, ⟨_, Heap.get?_push_size _ rfl, rfl, rfl⟩, fun b hb => ?_, q1 W1 _ H1 (.refl W1) R1 (repI_tup hA rl)⟩
    have e : b = s1.heap.objs.size := by simpa using hb
    subst e
    exact I1.fpOk (Nat.le_refl _) (I1.hok.fresh (Nat.le_refl _))
  | rl xs vs A hA rl =>
    cases r1
    exact lst (SqL.of (R1.fr _ _ hA)) (q1 W1 _ H1 (.refl W1) R1 (repI_rl (SqL.of hA) rl))
  | sc xs vs A hA rl =>
    cases r1
    exact lst (sql_mono R1.fr hA) (q1 W1 _ H1 (.refl W1) R1 (repI_rl hA rl))
  | ref n A hA =>
    cases r1
    unfold itD at q1
    dsimp only at q1
    split at q1
    · rename_i xs hx
      obtain ⟨ho, h1, h2⟩ := R1.obj n A _ hA hx
      cases h2 with
      | lst _ vs rv => exact lst (SqL.of h1) (q1 W1 _ H1 (.refl W1) R1 ⟨A, hA, rfl⟩)
    · exact q1.elim
  | _ => exact (show False from q1).elim
end
end Bp


set_option Elab.async false
set_option linter.all false
set_option maxRecDepth 100000
set_option maxHeartbeats 4000000
/-! Bp3: defs, their promises, calls. -/
namespace Bp
open PySem L2 PyProof.Rows

/-! ### what is left behind a call is forgotten -/
mutual
def below (n : Nat) : D → Bool
  | .tup xs => belows n xs
  | .ins _ xs => belows n xs
  | .rl xs => belows n xs
  | .ref k => decide (k < n)
  | .xv _ _ vs => belows n vs
  | .rk _ vs => belows n vs
  | .sc xs => belows n xs
  | .non => true
  | .bl _ => true
  | .int _ => true
  | .str _ => true
  | .ty _ => true
  | .glob _ => true
def belows (n : Nat) : List D → Bool
  | [] => true
  | d :: ds => below n d && belows n ds
end
def Wd.cut (W' : Wd) (μ : List Addr) : Wd := ⟨W'.F, μ, W'.xs⟩
theorem below_of {G : Gs} {W : Wd} {d : D} {v : V} (r : RepV G W d v) : below W.μ.length d = true := by
  refine RepV.rec (motive_1 := fun d v _ => below W.μ.length d = true) (motive_2 := fun ds vs _ => belows W.μ.length ds = true) ?_ ?_ ?_ ?_ ?_ ?_ ?_ ?_ ?_ ?_ ?_ ?_ ?_ ?_ ?_ r
  · rfl
  · exact fun b => rfl
  · exact fun b => rfl
  · exact fun b => rfl
  · exact fun b => rfl
  · exact fun x a h => rfl
  · exact fun xs vs a h _ ih => by simpa [below] using ih
  · exact fun c xs a C dx fvs hc h hk _ ih => by simpa [below] using ih
  · exact fun xs vs a h _ ih => by simpa [below] using ih
  · exact fun n a h => by simpa [below] using (List.getElem?_eq_some_iff.mp h).1
  · exact fun c ks vs a C dd d fvs h hc h0 h1 hk _ ih => by simpa [below] using ih
  · exact fun ks ds a kws h hk _ ih => by simpa [below] using ih
  · exact fun xs vs a h _ ih => by simpa [below] using ih
  · rfl
  · intro d v ds vs _ _ ih1 ih2
    simp [belows, ih1, ih2]
theorem belows_of {G : Gs} {W : Wd} : ∀ {ds : List D} {vs : List V}, RepL G W ds vs → belows W.μ.length ds = true
  | _, _, .nil => rfl
  | _, _, .cons h t => by simp [belows, below_of h, belows_of t]
/-! ### what is made in a call and handed on is frozen -/
def okB (k : Nat) : O → Bool
  | .lst xs => belows k xs
  | .obj _ fs => belows k (fs.map (·.2))
  | .dic kvs => belows k (kvs.map (·.2))
  | .dead => true
def pfx (S S' : Store) : Prop := S.length ≤ S'.length ∧ ∀ i, i < S.length → S'[i]? = S[i]? ∨ ∃ o, S'[i]? = some o ∧ okB S.length o = true
def optL (g : D → Option D) : List D → Option (List D)
  | [] => some []
  | d :: ds => match g d, optL g ds with
    | some a, some b => some (a :: b)
    | _, _ => none
def frz (S' : Store) (k q : Nat) : Nat → D → Option D
  | 0, _ => none
  | f + 1, d => if below k d = true then some d else match d with
    | .tup xs => (optL (frz S' k q f) xs).map .tup
    | .ins c xs => (optL (frz S' k q f) xs).map (.ins c)
    | .rl xs => (optL (frz S' k q f) xs).map .rl
    | .rk ks xs => (optL (frz S' k q f) xs).map (.rk ks)
    | .ref n => if n = q then none else (match S'[n]? with
      | some (.lst xs) => (optL (frz S' k q f) xs).map .rl
      | some (.dic kvs) => (optL (frz S' k q f) (kvs.map (·.2))).map (.rk (kvs.map (·.1)))
      | _ => none)
    | _ => none
open Classical in
noncomputable def Wd.fz (W' : Wd) (μ : List Addr) (H' : Hp) : Wd := ⟨fun a => if a ∈ W'.μ ∧ a ∉ μ then H' a else W'.F a, μ, W'.xs⟩
section
variable {G : Gs} {W W' : Wd} {S S' : Store} {H H' : Hp} {μ : List Addr} {k q : Nat}
theorem fz_F (R' : Rel G W' S' H') {a : Addr} {o : HO} (h : W'.F a = some o) : (W'.fz μ H').F a = some o := by
  show (if a ∈ W'.μ ∧ a ∉ μ then H' a else W'.F a) = some o
  split
  · exact R'.fr _ _ h
  · exact h
theorem fz_new {a : Addr} (h : a ∈ W'.μ) (h2 : a ∉ μ) : (W'.fz μ H').F a = H' a := by
  show (if a ∈ W'.μ ∧ a ∉ μ then H' a else W'.F a) = H' a
  rw [if_pos ⟨h, h2⟩]
theorem rep_fz (R' : Rel G W' S' H') (hk : ∀ m a, m < k → W'.μ[m]? = some a → μ[m]? = some a) {d : D} {v : V} (r : RepV G W' d v) : below k d = true → RepV G (W'.fz μ H') d v := by
  refine RepV.rec (motive_1 := fun d v _ => below k d = true → RepV G (W'.fz μ H') d v) (motive_2 := fun ds vs _ => belows k ds = true → RepL G (W'.fz μ H') ds vs) ?_ ?_ ?_ ?_ ?_ ?_ ?_ ?_ ?_ ?_ ?_ ?_ ?_ ?_ ?_ r
  · exact fun _ => .non
  · exact fun b _ => .bl b
  · exact fun b _ => .int b
  · exact fun b _ => .str b
  · exact fun b _ => .ty b
  · exact fun x a h _ => .glob x a h
  · exact fun xs vs a h _ ih hb => .tup xs vs a (h.mono fun _ _ => fz_F R') (ih (by simpa [below] using hb))
  · exact fun c xs a C dx fvs hc h hk _ ih hb => .ins c xs a C dx fvs hc (fz_F R' h) hk (ih (by simpa [below] using hb))
  · exact fun xs vs a h _ ih hb => .rl xs vs a (fz_F R' h) (ih (by simpa [below] using hb))
  · exact fun n a h hb => .ref n a (hk n a (by simpa [below] using hb) h)
  · exact fun c ks vs a C dd d fvs h hc h0 h1 hk _ ih hb => .xv c ks vs a C dd d fvs h hc h0 (fun z => ⟨(h1 z).1, fz_F R' (h1 z).2⟩) hk (ih (by simpa [below] using hb))
  · exact fun ks ds a kws h hk _ ih hb => .rk ks ds a kws (fz_F R' h) hk (ih (by simpa [below] using hb))
  · exact fun xs vs a h _ ih hb => .sc xs vs a (sql_mono (fun _ _ => fz_F R') h) (ih (by simpa [below] using hb))
  · exact fun _ => .nil
  · intro d v ds vs _ _ ih1 ih2 hb
    have : below k d = true ∧ belows k ds = true := by simpa [belows] using hb
    exact .cons (ih1 this.1) (ih2 this.2)
theorem repL_fz (R' : Rel G W' S' H') (hk : ∀ m a, m < k → W'.μ[m]? = some a → μ[m]? = some a) : ∀ {ds : List D} {vs : List V}, RepL G W' ds vs → belows k ds = true → RepL G (W'.fz μ H') ds vs
  | _, _, .nil, _ => .nil
  | d :: ds, _, .cons h t, hb => by
    have : below k d = true ∧ belows k ds = true := by simpa [belows] using hb
    exact .cons (rep_fz R' hk h this.1) (repL_fz R' hk t this.2)
theorem optL_ok {g : D → Option D} (hg : ∀ d d' v, g d = some d' → RepV G W d v → RepV G W' d' v) : ∀ {ds ds' : List D} {vs : List V}, optL g ds = some ds' → RepL G W ds vs → RepL G W' ds' vs
  | [], ds', _, h, .nil => by cases h; exact .nil
  | d :: ds, ds', _, h, .cons r t => by
    unfold optL at h
    split at h
    · rename_i a b ea eb
      cases h
      exact .cons (hg _ _ _ ea r) (optL_ok hg eb t)
    · cases h
theorem frz_ok (R' : Rel G W' S' H') (hk : ∀ m a, m < k → W'.μ[m]? = some a → μ[m]? = some a) (hn : ∀ n a, k ≤ n → n ≠ q → W'.μ[n]? = some a → a ∉ μ) : ∀ (f : Nat) (d d' : D) (v : V), frz S' k q f d = some d' → RepV G W' d v → RepV G (W'.fz μ H') d' v
  | 0, _, _, _, h, _ => by cases h
  | f + 1, d, d', v, h, r => by
    have ih := frz_ok R' hk hn f
    unfold frz at h
    split at h
    · rename_i hb
      cases h
      exact rep_fz R' hk r hb
    · rename_i hb
      cases r with
      | tup xs vs a h1 r =>
        obtain ⟨ys, e, rfl⟩ := Option.map_eq_some_iff.mp h
        exact .tup ys vs a (h1.mono fun _ _ => fz_F R') (optL_ok ih e r)
      | ins c xs a C dx fvs hc h1 hk r =>
        obtain ⟨ys, e, rfl⟩ := Option.map_eq_some_iff.mp h
        exact .ins c ys a C dx fvs hc (fz_F R' h1) hk (optL_ok ih e r)
      | rl xs vs a h1 r =>
        obtain ⟨ys, e, rfl⟩ := Option.map_eq_some_iff.mp h
        exact .rl ys vs a (fz_F R' h1) (optL_ok ih e r)
      | rk ks xs a kws h1 hk r =>
        obtain ⟨ys, e, rfl⟩ := Option.map_eq_some_iff.mp h
        exact .rk ks ys a kws (fz_F R' h1) hk (optL_ok ih e r)
      | ref n a hA =>
        have hkn : k ≤ n := by
          have : ¬ n < k := by simpa [below] using hb
          omega
        dsimp only at h
        split at h
        · cases h
        · rename_i hq
          have hna := hn n a hkn hq hA
          have hmem : a ∈ W'.μ := List.mem_iff_getElem?.mpr ⟨n, hA⟩
          split at h
          · rename_i xs hx
            obtain ⟨ys, e, rfl⟩ := Option.map_eq_some_iff.mp h
            obtain ⟨ho, g1, g2⟩ := R'.obj n a _ hA hx
            cases g2 with
            | lst _ vs rv => exact .rl ys vs a ((fz_new hmem hna).trans g1) (optL_ok ih e rv)
          · rename_i kvs hx
            obtain ⟨ys, e, rfl⟩ := Option.map_eq_some_iff.mp h
            obtain ⟨ho, g1, g2⟩ := R'.obj n a _ hA hx
            cases g2 with
            | dic _ kws hks rv => exact .rk _ ys a kws ((fz_new hmem hna).trans g1) hks (optL_ok ih e rv)
          · cases h
      | _ => cases h
theorem repO_fz (R' : Rel G W' S' H') (hk : ∀ m a, m < k → W'.μ[m]? = some a → μ[m]? = some a) {a : Addr} {o : O} {ho : HO} (r : RepO G W' a o ho) (h : okB k o = true) : RepO G (W'.fz μ H') a o ho := by
  cases r with
  | lst xs vs r => exact .lst xs vs (repL_fz R' hk r h)
  | obj c fs C dx fvs hc r => exact .obj c fs C dx fvs hc ⟨r.1, repL_fz R' hk r.2 h⟩
  | dic kvs kws hks r => exact .dic kvs kws hks (repL_fz R' hk r h)
  | dead ho => exact .dead ho
theorem okB_of {a : Addr} {o : O} {ho : HO} (r : RepO G W a o ho) : okB W.μ.length o = true := by
  cases r with
  | lst xs vs r => exact belows_of r
  | obj c fs C dx fvs hc r => exact belows_of r.2
  | dic kvs kws hks r => exact belows_of r
  | dead ho => rfl
theorem okB_pfx (R : Rel G W S H) (h : pfx S S') {i : Nat} {o : O} (hi : i < S.length) (ho : S'[i]? = some o) : okB S.length o = true := by
  rcases h.2 i hi with e | ⟨o', e, b⟩
  · rw [e] at ho
    obtain ⟨a, ha⟩ := R.addr ho
    obtain ⟨u, _, hr⟩ := R.obj i a o ha ho
    rw [← R.len]
    exact okB_of hr
  · rw [e] at ho
    cases ho
    exact b
theorem fz_hk (R : Rel G W S H) (l : Le W W') {E : List Addr} : ∀ m a, m < S.length → W'.μ[m]? = some a → (W.μ ++ E)[m]? = some a := fun m a hm h => by
  rw [List.getElem?_append_left (by rw [R.len]; exact hm)]
  obtain ⟨t, e⟩ := l.μ
  rw [← e, List.getElem?_append_left (by rw [R.len]; exact hm)] at h
  exact h
theorem fz_le (R' : Rel G W' S' H') (l : Le W W') {E : List Addr} : Le W (W'.fz (W.μ ++ E) H') := ⟨fun a o h => fz_F R' (l.F a o h), List.prefix_append _ _, l.xs⟩
theorem Rel.fz (R : Rel G W S H) (R' : Rel G W' S' H') (l : Le W W') (h : pfx S S') : Rel G (W'.fz W.μ H') (S'.take S.length) H' := by
  have hk : ∀ m a, m < S.length → W'.μ[m]? = some a → W.μ[m]? = some a := fun m a hm e => by
    have := fz_hk R l (E := []) m a hm e
    rwa [List.append_nil] at this
  refine ⟨fun a o e => ?_, ?_, R.nd, fun m a ha hd => ?_, fun n a o h1 h2 => ?_⟩
  · have e' : (if a ∈ W'.μ ∧ a ∉ W.μ then H' a else W'.F a) = some o := e
    split at e'
    · exact e'
    · exact R'.fr _ _ e'
  · show W.μ.length = (S'.take S.length).length
    rw [List.length_take, R.len, Nat.min_eq_left h.1]
  · show (if a ∈ W'.μ ∧ a ∉ W.μ then H' a else W'.F a) = none
    rw [if_neg (fun z => z.2 (List.mem_iff_getElem?.mpr ⟨m, ha⟩))]
    refine R'.off m a (l.at ha) fun z => hd ?_
    have hm : m < S.length := by
      have := (List.getElem?_eq_some_iff.mp ha).1
      rw [← R.len]; exact this
    rw [List.getElem?_take, if_pos hm]
    exact z
  · have hn : n < S.length := by
      have := (List.getElem?_eq_some_iff.mp h1).1
      rw [← R.len]; exact this
    have h2' : S'[n]? = some o := by
      rw [List.getElem?_take, if_pos hn] at h2
      exact h2
    obtain ⟨ho, g1, g2⟩ := R'.obj n a o (l.at h1) h2'
    exact ⟨ho, g1, repO_fz R' hk g2 (okB_pfx R h hn h2')⟩
theorem fz_hn (R : Rel G W S H) (R' : Rel G W' S' H') (l : Le W W') : ∀ n a, S.length ≤ n → W'.μ[n]? = some a → a ∉ W.μ := fun n a hn h z => by
  obtain ⟨m, hm⟩ := List.mem_iff_getElem?.mp z
  have hm2 := l.at hm
  have hlt : m < W.μ.length := (List.getElem?_eq_some_iff.mp hm).1
  obtain ⟨g1, e1⟩ := List.getElem?_eq_some_iff.mp hm2
  obtain ⟨g2, e2⟩ := List.getElem?_eq_some_iff.mp h
  have := (List.getElem_inj R'.nd).mp (e1.trans e2.symm)
  have h3 := R.len
  omega
end
open Classical in
noncomputable def gz (S : Store) (r : Res D) : Res D := match r with
  | .ok d S' => if pfx S S' then (match frz S' S.length S'.length 9 d with
    | some d' => .ok d' (S'.take S.length)
    | none => r) else r
  | .exc e S' => if pfx S S' then (match optL (frz S' S.length S'.length 9) e.vs with
    | some vs => .exc ⟨e.c, e.ks, vs⟩ (S'.take S.length)
    | none => r) else r
  | .bad => .bad
open Classical in
noncomputable def gk (S : Store) (r : Res D) : Res D := match r with
  | .ok (.ref n) S' => if pfx S S' ∧ S.length ≤ n then (match S'[n]? with
    | some (.lst xs) => (match optL (frz S' S.length n 9) xs with
      | some ys => .ok (.ref S.length) (S'.take S.length ++ [.lst ys])
      | none => r)
    | _ => r) else gz S r
  | _ => gz S r
def ZOk (z : Store → Res D → Res D) : Prop := ∀ {G : Gs} {W : Wd} {S : Store} {H : Hp} {r : Res D} {Q : VK} {E : XK}, Rel G W S H → Ev (RepV G) G W (z S r) Q E → Ev (RepV G) G W r Q E
theorem gz_ok : ZOk gz := by
  intro G W S H r Q E R q
  have e0 : W.μ ++ [] = W.μ := List.append_nil _
  cases r with
  | bad => exact q
  | exc e S' =>
    unfold gz at q
    dsimp only at q
    split at q
    · rename_i hp
      split at q
      · rename_i vs hv
        intro W' cls d H' l R' rx
        have hk := fz_hk R l (E := [])
        have hl := fz_le R' l (E := [])
        rw [e0] at hl
        simp only [e0] at hk
        refine q (W'.fz W.μ H') cls d H' hl (R.fz R' l hp) ⟨rx.c, rx.h0, ?_⟩
        obtain ⟨dd, fvs, h1, h2, h3⟩ := rx.f
        exact ⟨dd, fvs, fun z => ⟨(h1 z).1, fz_F R' (h1 z).2⟩, h2, optL_ok (fun d d' v => frz_ok R' hk (fun n a g1 _ g2 => fz_hn R R' l n a g1 g2) 9 d d' v) hv h3⟩
      · exact q
    · exact q
  | ok d S' =>
    unfold gz at q
    dsimp only at q
    split at q
    · rename_i hp
      split at q
      · rename_i d' hd
        intro W' v H' l R' rv
        have hk := fz_hk R l (E := [])
        have hl := fz_le R' l (E := [])
        rw [e0] at hl
        simp only [e0] at hk
        exact q (W'.fz W.μ H') v H' hl (R.fz R' l hp) (frz_ok R' hk (fun n a g1 _ g2 => fz_hn R R' l n a g1 g2) 9 d d' v hd rv)
      · exact q
    · exact q
theorem gk_ok : ZOk gk := by
  intro G W S H r Q E R q
  unfold gk at q
  split at q
  · rename_i n S'
    split at q
    · rename_i hp
      obtain ⟨hp, hSn⟩ := hp
      split at q
      · rename_i xs hx
        split at q
        · rename_i ys hy
          intro W' v H' l R' rv
          cases rv with
          | ref _ A hA =>
            obtain ⟨ho, g1, g2⟩ := R'.obj n A _ hA hx
            have hAm : A ∈ W'.μ := List.mem_iff_getElem?.mpr ⟨n, hA⟩
            have hnA := fz_hn R R' l n A hSn hA
            have hk := fz_hk R l (E := [A])
            have hn : ∀ m a, S.length ≤ m → m ≠ n → W'.μ[m]? = some a → a ∉ W.μ ++ [A] := fun m a h1 h2 h3 h4 => by
              rcases List.mem_append.mp h4 with z | z
              · exact fz_hn R R' l m a h1 h3 z
              · have : a = A := by simpa using z
                subst this
                obtain ⟨k1, e1⟩ := List.getElem?_eq_some_iff.mp hA
                obtain ⟨k2, e2⟩ := List.getElem?_eq_some_iff.mp h3
                exact h2 ((List.getElem_inj R'.nd).mp (e2.trans e1.symm))
            cases g2 with
            | lst _ vs rv0 =>
              have ry := optL_ok (fun d d' v => frz_ok (q := n) R' hk hn 9 d d' v) hy rv0
              refine q (W'.fz (W.μ ++ [A]) H') (.ref A) H' (fz_le R' l) ⟨fun a o e => ?_, ?_, ?_, fun m a ha hd => ?_, fun m a o h1 h2 => ?_⟩ (.ref _ A ?_)
              · have e' : (if a ∈ W'.μ ∧ a ∉ W.μ ++ [A] then H' a else W'.F a) = some o := e
                split at e'
                · exact e'
                · exact R'.fr _ _ e'
              · show (W.μ ++ [A]).length = (S'.take S.length ++ [O.lst ys]).length
                rw [List.length_append, List.length_append, List.length_take, R.len, Nat.min_eq_left hp.1]
                rfl
              · show (W.μ ++ [A]).Nodup
                refine List.nodup_append.mpr ⟨R.nd, by simp, fun b hb c hc => ?_⟩
                have : c = A := by simpa using hc
                subst this
                intro z
                exact hnA (z ▸ hb)
              · show (if a ∈ W'.μ ∧ a ∉ W.μ ++ [A] then H' a else W'.F a) = none
                rw [if_neg (fun z => z.2 (List.mem_iff_getElem?.mpr ⟨m, ha⟩))]
                have ha' : (W.μ ++ [A])[m]? = some a := ha
                by_cases hm : m < W.μ.length
                · rw [List.getElem?_append_left hm] at ha'
                  refine R'.off m a (l.at ha') fun z => hd ?_
                  have hm2 : m < S.length := by rw [← R.len]; exact hm
                  rw [List.getElem?_append_left (by rw [List.length_take, Nat.min_eq_left hp.1]; exact hm2), List.getElem?_take, if_pos hm2]
                  exact z
                · have hl := (List.getElem?_eq_some_iff.mp ha').1
                  rw [List.length_append, List.length_singleton] at hl
                  have hm' : m = W.μ.length := by omega
                  subst hm'
                  rw [List.getElem?_append_right (Nat.le_refl _), Nat.sub_self] at ha'
                  have : A = a := by simpa using ha'
                  subst this
                  exact R'.off n A hA (by rw [hx]; intro z; cases z)
              · have h1' : (W.μ ++ [A])[m]? = some a := h1
                by_cases hm : m < S.length
                · rw [List.getElem?_append_left (by rw [R.len]; exact hm)] at h1'
                  rw [List.getElem?_append_left (by rw [List.length_take, Nat.min_eq_left hp.1]; exact hm), List.getElem?_take, if_pos hm] at h2
                  obtain ⟨ho, k1, k2⟩ := R'.obj m a o (l.at h1') h2
                  exact ⟨ho, k1, repO_fz R' hk k2 (okB_pfx R hp hm h2)⟩
                · have hl2 : m < (W.μ ++ [A]).length := (List.getElem?_eq_some_iff.mp h1').1
                  rw [List.length_append, List.length_singleton, R.len] at hl2
                  have hm' : m = S.length := by omega
                  subst hm'
                  rw [List.getElem?_append_right (by rw [R.len]; exact Nat.le_refl _), R.len, Nat.sub_self] at h1'
                  rw [List.getElem?_append_right (by rw [List.length_take, Nat.min_eq_left hp.1]; exact Nat.le_refl _), List.length_take, Nat.min_eq_left hp.1, Nat.sub_self] at h2
                  have a1 : A = a := by simpa using h1'
                  have a2 : O.lst ys = o := by simpa using h2
                  subst a1 a2
                  exact ⟨_, g1, .lst ys vs ry⟩
              · show (W.μ ++ [A])[S.length]? = some A
                rw [← R.len, List.getElem?_append_right (Nat.le_refl _), Nat.sub_self]
                rfl
        · exact q
      · exact q
    · exact gz_ok R q
  · exact gz_ok R q
/-! ### defs -/
def finD (r : RS) : Res D := match r with
  | .nx _ S => .ok .non S
  | .rt d S => .ok d S
  | .exc e _ S => .exc e S
  | _ => .bad
noncomputable def mDefZ (z : Store → Res D → Res D) (n : Nat) (body : MS) : Fn := fun ds S => z S (finD (body (ds.map some ++ List.replicate (n - ds.length) none) S))
noncomputable abbrev mDef (n : Nat) (body : MS) : Fn := mDefZ gz n body
noncomputable abbrev mDefK (n : Nat) (body : MS) : Fn := mDefZ gk n body
def spM (G : Gs) (np : Nat) (f : Fn) : Sp := fun vs H Q E => vs.length = np ∧ ∃ W ds S, Rel G W S H ∧ RepL G W ds vs ∧ Ev (RepV G) G W (f ds S) Q E
theorem repE_start {G : Gs} {W : Wd} {ds : List D} {vs : List V} {N : List Str} (r : RepL G W ds vs) : RepE G none W (ds.map some ++ List.replicate (N.length - ds.length) none) (L2.start N vs) := by
  refine ⟨fun i e => (nomatch e), ?_, fun i d h => ?_⟩
  · unfold L2.start
    rw [List.length_append, List.length_append, List.length_map, List.length_map, List.length_replicate, List.length_replicate, r.length]
  · unfold L2.start
    by_cases hi : i < ds.length
    · rw [List.getElem?_append_left (by rw [List.length_map]; exact hi), List.getElem?_map] at h
      cases e : ds[i]? with
      | none => rw [e] at h; cases h
      | some d' =>
        rw [e] at h
        cases h
        obtain ⟨v, h1, h2⟩ := r.get e
        refine ⟨v, ?_, h2⟩
        rw [List.getElem?_append_left (by rw [List.length_map, ← r.length]; exact hi), List.getElem?_map, h1]
        rfl
    · rw [List.getElem?_append_right (by rw [List.length_map]; omega)] at h
      have := List.mem_iff_getElem?.mpr ⟨_, h⟩
      have := (List.mem_replicate.mp this).2
      cases this
section
variable {P : Program} {w : World} {K : PySem.W.Frag} {mg : Str → Option Value} {base : Heap}
abbrev cxo (P : Program) (w : World) (K : PySem.W.Frag) (mg : Str → Option Value) (base : Heap) (N : List Str) (qual : Str) (st : Stmt) (f : Addr) (cdv : Value) (A : Around) (outer : List PySem.Env) (s : Shared) (H : Hp) (E : XK) : Cx :=
  cxOf (L2.CX P w) P w K mg base N qual (defScope st) f cdv A outer s H E
structure Cxt (fl : Pm) (X : Cx) (Wx : WX) (k : Nat) : Prop where
  fx : fl.x = none
  hr : Room k X.A
  tk : Takes X Wx
  po : PassesOwn (model X.prog X.w) X.A X.env X.xe
  calm : X.calm = true
def Stk (X : Cx) : Prop := X.stack = X.env :: X.outer ∧ X.env.frame = some X.env.locals
theorem Cxt.gx {fl : Pm} {X : Cx} {Wx : WX} {k : Nat} (C : Cxt fl X Wx k) : gx X fl = ⟨X.K, X.mg, fl.tn, none⟩ := by unfold Bp.gx; rw [C.fx]
theorem gx_none {fl : Pm} {X : Cx} (h : fl.x = none) : gx X fl = ⟨X.K, X.mg, fl.tn, none⟩ := by unfold Bp.gx; rw [h]
theorem fn_run {z : Store → Res D → Res D} (hz : ZOk z) {fl : Pm} {N ps : List Str} {X : Cx} {Wx : WX} {st : Stmt} {body : MS} {vs : List V} {H : Hp} {Q : VK} {E : XK} (hfl : fl.x = none) (hW : ∀ c d σ H', Wx c d σ H' = E c d H') (h : spM ⟨X.K, X.mg, fl.tn, none⟩ ps.length (mDefZ z N.length body) vs H Q E) :
    TSm (gx X fl) fl.x Wx body { nx := fun _ H' => Q .non H', rt := Q } (L2.start N vs) H := by
  have hG : gx X fl = ⟨X.K, X.mg, fl.tn, none⟩ := by unfold gx; rw [hfl]
  rw [← hG] at h
  obtain ⟨hl, W, ds, S, R, rl, q⟩ := h
  refine ⟨W, _, S, R, by rw [hfl]; exact repE_start (N := N) rl, ?_⟩
  unfold mDefZ at q
  have q' := hz R q
  cases e : body (ds.map some ++ List.replicate (N.length - ds.length) none) S with
  | nx env S' => rw [e] at q'; exact fun W' σ' H' l R' RE' => q' W' .non H' l R' .non
  | rt d S' => rw [e] at q'; exact q'
  | bk _ _ => rw [e] at q'; exact (show False from q').elim
  | ct _ _ => rw [e] at q'; exact (show False from q').elim
  | exc x _ S' => rw [e] at q'; exact fun W' cls d σ' H' l R' rx _ => by rw [hW]; exact q' W' cls d H' l R' rx
  | bad => rw [e] at q'; exact q'
theorem fn_mk {z : Store → Res D → Res D} {fl : Pm} {x qual : Str} {st : Stmt} {f : Addr} {fd : FuncData} {N ps : List Str} {k : Nat} {body : MS} {dvs : List V} {kws : List (Str × V)} (F : FunD K x qual (defArgs st) (defBody st) (defScope st) dvs kws f fd) (Sc : FnScope N ps (defScope st)) (hfl : fl.x = none)
    (hb : ∀ (cdv : Value) (A : Around) (outer : List PySem.Env) (s : Shared) (H : Hp) (E : XK), Cxt fl (cxo P w K mg base N qual st f cdv A outer s H E) (fun c d _ H' => E c d H') k → Stk (cxo P w K mg base N qual st f cdv A outer s H E) →
      ESs fl (cxo P w K mg base N qual st f cdv A outer s H E) (fun c d _ H' => E c d H') (defBody st) body) (hz : ZOk z := by first | exact gz_ok | exact gk_ok) :
    FnOk P w K mg base (L2.CX P w) (k + 1) f fd ps (spM ⟨K, mg, fl.tn, none⟩ ps.length (mDefZ z N.length body)) :=
  F.ok Sc (fun vs H Q E h => h.1) fun cdv A outer s H vs Q E hr h =>
    ⟨_, hb cdv A outer s H E ⟨hfl, hr, takes_of rfl rfl rfl rfl, passes_of rfl, rfl⟩ ⟨rfl, rfl⟩, fn_run hz (fl := fl) (ps := ps) (X := cxo P w K mg base N qual st f cdv A outer s H E) (Wx := fun c d _ H' => E c d H') (st := st) hfl (fun _ _ _ _ => rfl) h⟩
structure DefOk (P : Program) (w : World) (K : PySem.W.Frag) (mg : Str → Option Value) (base : Heap) (tn : Tn) (L : Nat) (x : Str) (n : Nat) (g : Fn) : Prop where
  ex : ∃ (f : Addr) (fd : FuncData) (ps : List Str), ps.length = n ∧ FnOk P w K mg base (L2.CX P w) L f fd ps (spM ⟨K, mg, tn, none⟩ n g) ∧ mg x = some (.ref f) ∧ PySem.W.keepIn K (.ref f) = true ∧ Binds K fd ps []
theorem DefOk.mono {tn : Tn} {L L' : Nat} {x : Str} {n : Nat} {g : Fn} (h : DefOk P w K mg base tn L x n g) (l : L ≤ L') : DefOk P w K mg base tn L' x n g :=
  let ⟨f, fd, ps, h1, h2, h3⟩ := h.ex
  ⟨f, fd, ps, h1, h2.mono l, h3⟩
theorem DefOk.eqv {tn : Tn} {L : Nat} {x : Str} {n : Nat} {g g' : Fn} (h : DefOk P w K mg base tn L x n g) (e : ∀ ds S, g' ds S = .bad ∨ g' ds S = g ds S) : DefOk P w K mg base tn L x n g' := by
  obtain ⟨f, fd, ps, h1, h2, h3⟩ := h.ex
  refine ⟨f, fd, ps, h1, h2.imp fun vs H Q E ⟨hl, W, ds, S, R, rl, q⟩ => ⟨hl, W, ds, S, R, rl, ?_⟩, h3⟩
  rcases e ds S with z | z
  · rw [z] at q; exact q.elim
  · rw [← z]; exact q
end
/-! ### calls -/
def mCall (g : Fn) (ms : List ME) : ME := fun env S => (mArgs ms env S).bind g
section
variable {fl : Pm} {X : Cx} {Wx : WX} {e : Expr} {es : List Expr} {me : ME} {ms : List ME} {pos p : Pos} {L k n : Nat} {x : Str} {g : Fn}
theorem ex_call (D0 : DefOk X.prog X.w X.K X.mg X.base fl.tn L x n g) (C : Cxt fl X Wx k) (hL : L ≤ k) (hg : Gl X x) (ha : EA fl X Wx (e :: es) (me :: ms)) (hn : (me :: ms).length = n := by rfl) (hdb : (x == ("__debug__" : Str)) = false := by decide)
    (he : starEach (e :: es) X.env = (false, eval e X.env) :: starEach es X.env := by rfl) (hpl : (backTo pos (starEach es X.env)).any (·.1) = false := by rfl) : EX fl X Wx (.Call (.Name x p) (e :: es) [] pos) (mCall g (me :: ms)) := by
  obtain ⟨f, fd, ps, h1, F, hm, hk, hb⟩ := D0.ex
  rw [← C.gx] at F
  refine PE.imp (pe_callS F (C.hr.mono hL) hg hm hk hb (fun σ => passAt C.tk σ) ha hdb he hpl) fun σ H Q ⟨W, env, S, R, RE, q⟩ => ?_
  refine ⟨W, env, S, R, RE, Ev.imp (Ev.len (show Ev _ _ _ ((mArgs (me :: ms) env S).bind g) _ _ from q)) fun vs H1 ⟨W1, ds, S1, l1, R1, r1, hlen, q1⟩ => ?_⟩
  exact ⟨by rw [hlen]; exact hn, W1, ds, S1, R1, r1, q1⟩
end
structure FunS (K : PySem.W.Frag) (x qual : Str) (params : Arguments) (body : List Stmt) (scope : Scope) (dcls : Addr) (dvs : List V) (kws : List (Str × V)) (file : Str) (f : Addr) (fd : FuncData) : Prop where
  ex : ∃ (oc : Value) (od : Option Addr) (dV kV doc pm : Value) (an : Option Addr) (c cc : Addr) (ct : Value) (osl : Array (Option Value)) (oC oK : Obj) (vs : Array Value) (tf : Tok),
    fd = PySem.W.fnX x qual params body scope [("__class__", cc)] dV kV doc pm an (.ref c) ct ∧ K.lookup f = some ⟨oc, od, .func fd, osl⟩ ∧ PySem.W.codeIn K (.ref c) qual = true ∧ DflV K dV dvs ∧ KwdV K kV kws ∧
    K.lookup cc = some oC ∧ oC.data = .cell (some (.ref dcls)) ∧ K.lookup c = some oK ∧ oK.data = .fields vs ∧ vs[2]? = some (.str file tf)
  kp : PySem.W.keepIn K (.ref f) = true
theorem FunS.bindsN {K : PySem.W.Frag} {x qual file : Str} {params : Arguments} {body : List Stmt} {scope : Scope} {dcls f : Addr} {kws : List (Str × V)} {fd : FuncData} {ps : List Str} (F : FunS K x qual params body scope dcls [] kws file f fd)
    (h : ∀ (kV doc pm : Value) (an : Option Addr) (cdv ct : Value) (cc : Addr) (us : List Value), us.length = ps.length → bindArgs (PySem.W.fnX x qual params body scope [("__class__", cc)] .none kV doc pm an cdv ct) ⟨us, []⟩ = pure (ps.zip us)) : Binds K fd ps [] := by
  obtain ⟨oc, od, dV, kV, doc, pm, an, c, cc, ct, osl, oC, oK, vs, tf, rfl, lk, hcd, hD, _⟩ := F.ex
  rcases hD with ⟨_, rfl⟩ | ⟨e, _⟩
  · exact .all (h kV doc pm an (.ref c) ct cc)
  · exact absurd rfl e
end Bp


set_option Elab.async false
set_option linter.all false
set_option maxRecDepth 100000
set_option maxHeartbeats 4000000
/-! Bp4: operators of own classes beside ints, at the library's level. -/
namespace Bp
open PySem L2 PyProof.Rows
section
variable {M : Model} {A : Around} {E : Value → Shared → Prop} {s : Shared}
theorem asInt_ref {b : Addr} {o : Obj} {Q : Option Int → Shared → Prop} (hb : s.heap.get? b = some o) (hd : ∀ v, o.data ≠ .prim v) (hq : Q none s) : wpAny M A (asInt? (.ref b)) Q E s := by
  unfold asInt?
  refine wpAny_bind (wpAny_load hb ?_)
  split
  · rename_i i u q; exact absurd q (hd _)
  · exact wpAny_pure hq
theorem intBin_declines {name : String} {f : Int → Int → Sem PySem.Fin} {a : Int} {t : Tok} {b : Addr} {o : Obj} {Q : PySem.Fin → Shared → Prop} (hb : s.heap.get? b = some o) (hd : ∀ v, o.data ≠ .prim v) (hq : Q (.done (.ret .notImplemented)) s) :
    wpAny M A (Builtin.Int.intBinary name f false ⟨[.int a t, .ref b], []⟩) Q E s := by
  unfold Builtin.Int.intBinary
  obtain ⟨hp, g, d, tk, os⟩ := s
  wp_walk using asInt_ref hb hd
  split
  · rename_i i u q; exact absurd q (hd _)
  · refine wpAny_pure ?_
    exact wpAny_bind (wpAny_rule (wpAny_pure hq))
theorem exactOps_ref {a : Int} {t : Tok} {b : Addr} {o : Obj} {Q : Unit → Shared → Prop} (hb : s.heap.get? b = some o) (hd : ∀ v, o.data ≠ .prim v) (hq : Q () s) : wpAny M A (Builtin.exactOperandsForPylong false ⟨[.int a t, .ref b], []⟩) Q E s := by
  unfold Builtin.exactOperandsForPylong
  rw [if_pos (by rfl)]
  refine wpAny_bind (m := asInt? (.int a t)) (wpAny_pure ?_)
  refine wpAny_bind (asInt_ref hb hd ?_)
  exact wpAny_pure hq
end
section
variable {prog : Program} {w : World} {A : Around} {E : Value → Shared → Prop} {s : Shared}
structure IntDecl (prog : Program) (w : World) (nm : Str) : Prop where
  go : ∀ (A : Around) (E : Value → Shared → Prop) (s : Shared) (a : Int) (t : Tok) (b : Addr) (o : Obj) (Q : Option Value → Shared → Prop), s.heap.get? b = some o → (∀ v, o.data ≠ .prim v) → Q none s → wpAny (model prog w) A (tryMethod (.int a t) nm (.ref b)) Q E s
theorem intDecl_by {nm : Str} {id : String} {B : Builtin} (slot : Slot "int" nm id) (entry : entryFor table id = some B) (args : ∀ a b, argsOk id ⟨[a, b], []⟩)
    (hB : ∀ (A : Around) (E : Value → Shared → Prop) (s : Shared) (a : Int) (t : Tok) (b : Addr) (o : Obj) (Q : PySem.Fin → Shared → Prop), s.heap.get? b = some o → (∀ v, o.data ≠ .prim v) → Q (.done (.ret .notImplemented)) s → wpAny (model prog w) A (B ⟨[.int a t, .ref b], []⟩) Q E s) : IntDecl prog w nm where
  go := fun A E s a t b o Q hb hd hq => wpAny_tryMethod_declines (typeIs_int s a t) slot (GQ.call_here slot (typeIs_int s a t) entry (args _ _) (hB _ _ _ _ _ _ _ _ hb hd ⟨rfl, hq⟩))
theorem intDecl_of {nm : Str} {id name : String} {f : Int → Int → Sem PySem.Fin} {B : Builtin} (slot : Slot "int" nm id) (entry : entryFor table id = some B) (args : ∀ a b, argsOk id ⟨[a, b], []⟩) (hB : B = Builtin.Int.intBinary name f false) : IntDecl prog w nm :=
  intDecl_by slot entry args fun A E s a t b o Q hb hd hq => by
    rw [hB]
    exact intBin_declines hb hd hq
theorem floordiv_def : Builtin.«int.__floordiv__» = fun args => Builtin.exactOperandsForPylong false args >>= fun _ => Builtin.Int.intBinary "__floordiv__" (int_private% "intFloordiv") false args := rfl
theorem intDecl_fd : IntDecl prog w (PySem.dunder "floordiv") :=
  intDecl_by PySem.F.slot_int_floordiv PySem.F.entry_int_floordiv PySem.F.args_int_floordiv_2 fun A E s a t b o Q hb hd hq => by
    rw [floordiv_def]
    exact wpAny_bind (exactOps_ref hb hd (intBin_declines hb hd hq))
theorem intDecl_add : IntDecl prog w (PySem.dunder "add") := intDecl_of PySem.F.slot_int_add PySem.F.entry_int_add (PySem.F.args_int_add_2) rfl
theorem intDecl_sub : IntDecl prog w (PySem.dunder "sub") := intDecl_of PySem.F.slot_int_sub PySem.F.entry_int_sub (PySem.F.args_int_sub_2) rfl
theorem intDecl_mul : IntDecl prog w (PySem.dunder "mul") := intDecl_of PySem.F.slot_int_mul PySem.F.entry_int_mul (PySem.F.args_int_mul_2) rfl
theorem intDecl_mod : IntDecl prog w (PySem.dunder "mod") := intDecl_of PySem.F.slot_int_mod PySem.F.entry_int_mod (PySem.F.args_int_mod_2) rfl
end
section
variable {prog : Program} {w : World} {A : Around} {E : Value → Shared → Prop} {s : Shared} {K : PySem.W.Frag} {x C L f g : Addr} {h₀ : Heap} {m : Str → Option Value} {ox : Obj} {od : Option Obj}
theorem mro_first {K : PySem.W.Frag} {C : Addr} (hc : PySem.W.selfFirst K C = true) : ∃ cd rest, PySem.W.clsIn K C = some cd ∧ cd.mro = .ref C :: rest := by
  obtain ⟨cd, hcd, hm⟩ := PySem.W.any_some hc
  refine ⟨cd, ?_⟩
  cases q : cd.mro with
  | nil => rw [q] at hm; cases hm
  | cons a r => exact ⟨r, hcd, by rw [q, List.head?_cons] at hm; cases (beq_iff_eq.mp hm); rfl⟩
theorem py_own {M : Model} {h : Heap} {nm : String} (X : K.In h) (hs : PySem.W.findIn K (.ref C) (PySem.dunder nm) = some (some (.ref f))) {o : Option Value} (hr : PySem.W.findIn K (.ref C) (dunderR nm) = some o) (ho : ∀ b, o ≠ some (.builtin b)) : PySem.W.Looks M h (numberSlotInPython (.ref C) nm) true := by
  intro A Q E s k q
  unfold numberSlotInPython
  refine wpAny_bind (PySem.W.looks_findIn X hs A _ E s k ?_)
  refine wpAny_bind (wpAny_pure ?_)
  refine wpAny_bind (PySem.W.looks_findIn X hr A _ E s k ?_)
  cases o with
  | none => exact wpAny_bind (wpAny_pure (wpAny_pure q))
  | some v => cases v <;> first | exact absurd rfl (ho _) | exact wpAny_bind (wpAny_pure (wpAny_pure q))
theorem binop1_left {nm : String} {b tb : Value} {rb np : Bool} {o : Option Value} {Q : Option Value → Shared → Prop} (F : Fr h₀ L s.heap m) (X₀ : K.In h₀) (I : PySem.W.InstAt s.heap x ox C od) (hb : PySem.W.Looks (model prog w) s.heap (typeOf b) tb) (hne : (Value.ref C == tb) = false) (hc : PySem.W.selfFirst K C = true)
    (hs : PySem.W.findIn K (.ref C) (PySem.dunder nm) = some (some (.ref f))) (hf : PySem.W.isFn K (.ref f) = true) (hr : PySem.W.findIn K (.ref C) (dunderR nm) = some o) (ho : ∀ b, o ≠ some (.builtin b))
    (hsub : PySem.W.Looks (model prog w) s.heap (isSubtype tb (.ref C)) false) (hrb : PySem.W.Looks (model prog w) s.heap (fillsNumberSlot tb nm) rb) (hnp : PySem.W.Looks (model prog w) s.heap (numberSlotInPython tb nm) np)
    (htl : np = false → ∃ o, PySem.W.Looks (model prog w) s.heap (typeLookup tb (dunderR nm)) o)
    (h : wpAny (model prog w) A (call (.ref f) [.ref x, b]) (PySem.W.CmpBack fun v => Q (some v)) E s) : wpAny (model prog w) A (binaryOp1 nm (.ref x) b) Q E s := by
  have X := X₀.keeps F.keep
  obtain ⟨cd, rest, hcd, hm⟩ := mro_first hc
  unfold binaryOp1
  refine wpAny_bind (I.type.here (wpAny_bind (hb.here (wpAny_bind ((PySem.W.fills_K X hcd hm hs).here ?_)))))
  rw [hne]
  simp only [Bool.false_eq_true, if_false]
  refine wpAny_bind (hrb.here ?_)
  have fin : wpAny (model prog w) A (tryMethod (.ref x) (PySem.dunder nm) b) (fun r s' => ∃ v, r = some v ∧ Q (some v) s') E s := by
    unfold tryMethod
    refine wpAny_bind (PySem.W.special_fn X I hs (beq_iff_eq.mp hf) (wpAny_mono h (fun v s' hv => ?_) fun _ _ e => e))
    cases v <;> first | exact hv.elim | exact wpAny_pure ⟨_, rfl, hv⟩
  cases rb with
  | false =>
    simp only [Bool.and_false, Bool.false_eq_true, if_false, Bool.false_and]
    refine wpAny_bind (wpAny_pure ?_)
    rw [if_neg Bool.false_ne_true, if_pos trivial]
    refine wpAny_bind (wpAny_mono fin (fun r s' hr => ?_) fun _ _ e => e)
    obtain ⟨v, rfl, q⟩ := hr
    exact wpAny_pure q
  | true =>
    simp only [Bool.and_true, if_true]
    refine wpAny_bind (hsub.here ?_)
    simp only [Bool.false_eq_true, if_false, Bool.not_false, Bool.and_true, if_true]
    refine wpAny_bind ((py_own X hs hr ho).here ?_)
    rw [if_pos rfl]
    refine wpAny_bind (hnp.here ?_)
    cases np with
    | true =>
      rw [if_neg (by decide)]
      refine wpAny_bind (wpAny_mono fin (fun r s' hr => ?_) fun _ _ e => e)
      obtain ⟨v, rfl, q⟩ := hr
      exact wpAny_pure q
    | false =>
      rw [if_pos (by rfl)]
      obtain ⟨o', ho'⟩ := htl rfl
      refine wpAny_bind (ho'.here ?_)
      refine wpAny_bind (wpAny_mono fin (fun r s' hr => ?_) fun _ _ e => e)
      obtain ⟨v, rfl, q⟩ := hr
      exact wpAny_pure q
theorem binop1_same {nm : String} {b : Value} {Q : Option Value → Shared → Prop} (F : Fr h₀ L s.heap m) (X₀ : K.In h₀) (I : PySem.W.InstAt s.heap x ox C od) (hb : PySem.W.Looks (model prog w) s.heap (typeOf b) (.ref C)) (hc : PySem.W.selfFirst K C = true)
    (hs : PySem.W.findIn K (.ref C) (PySem.dunder nm) = some (some (.ref f))) (hf : PySem.W.isFn K (.ref f) = true)
    (h : wpAny (model prog w) A (call (.ref f) [.ref x, b]) (PySem.W.CmpBack fun v => Q (some v)) E s) : wpAny (model prog w) A (binaryOp1 nm (.ref x) b) Q E s := by
  have X := X₀.keeps F.keep
  obtain ⟨cd, rest, hcd, hm⟩ := mro_first hc
  unfold binaryOp1
  refine wpAny_bind (I.type.here (wpAny_bind (hb.here (wpAny_bind ((PySem.W.fills_K X hcd hm hs).here ?_)))))
  have fin : wpAny (model prog w) A (tryMethod (.ref x) (PySem.dunder nm) b) (fun r s' => ∃ v, r = some v ∧ Q (some v) s') E s := by
    unfold tryMethod
    refine wpAny_bind (PySem.W.special_fn X I hs (beq_iff_eq.mp hf) (wpAny_mono h (fun v s' hv => ?_) fun _ _ e => e))
    cases v <;> first | exact hv.elim | exact wpAny_pure ⟨_, rfl, hv⟩
  simp only [beq_self_eq_true, if_true]
  refine wpAny_bind (wpAny_pure ?_)
  simp only [Bool.and_false, Bool.false_eq_true, if_false, Bool.false_and]
  refine wpAny_bind (wpAny_pure ?_)
  skip
  refine wpAny_bind (wpAny_mono fin (fun r s' hr => ?_) fun _ _ e => e)
  obtain ⟨v, rfl, q⟩ := hr
  exact wpAny_pure q
theorem binop1_right {nm : String} {a : Int} {t : Tok} {Q : Option Value → Shared → Prop} (F : Fr h₀ L s.heap m) (X₀ : K.In h₀) (I : PySem.W.InstAt s.heap x ox C od) (hc : PySem.W.selfFirst K C = true) (hd : ∀ v, ox.data ≠ .prim v)
    (hs : PySem.W.findIn K (.ref C) (PySem.dunder nm) = some (some (.ref g))) (hr : PySem.W.findIn K (.ref C) (dunderR nm) = some (some (.ref f))) (hf : PySem.W.isFn K (.ref f) = true)
    (hsub : PySem.W.subIn K (.ref C) (.type "int") = some false) (hfi : fillsNumberSlot (.type "int") nm = pure true) (hde : IntDecl prog w (PySem.dunder nm))
    (h : wpAny (model prog w) A (call (.ref f) [.ref x, .int a t]) (PySem.W.CmpBack fun v => Q (some v)) E s) : wpAny (model prog w) A (binaryOp1 nm (.int a t) (.ref x)) Q E s := by
  have X := X₀.keeps F.keep
  obtain ⟨cd, rest, hcd, hm⟩ := mro_first hc
  unfold binaryOp1
  refine wpAny_bind (wpAny_typeOf (typeIs_int s a t) (wpAny_bind (I.type.here (wpAny_bind (wpAny_of_eq hfi ?_)))))
  rw [show (Value.type "int" == Value.ref C) = false from rfl]
  simp only [Bool.false_eq_true, if_false]
  refine wpAny_bind ((PySem.W.fills_K X hcd hm hs).here ?_)
  simp only [Bool.and_true, if_true]
  refine wpAny_bind ((PySem.W.looks_subIn X hsub).here ?_)
  simp only [Bool.false_eq_true, if_false, Bool.not_false, Bool.and_true, if_true]
  refine wpAny_bind (wpAny_of_eq (a := false) (by rfl) ?_)
  rw [if_neg Bool.false_ne_true]
  refine wpAny_bind (hde.go A E s a t x ox _ I.at_ hd ?_)
  dsimp only
  rw [if_neg Bool.false_ne_true]
  refine wpAny_bind (m := tryMethod (.ref x) _ _) ?_
  unfold tryMethod
  refine wpAny_bind (PySem.W.special_fn X I hr (beq_iff_eq.mp hf) (wpAny_mono h (fun v s' hv => ?_) fun _ _ e => e))
  cases v <;> first | exact hv.elim | exact wpAny_pure (wpAny_bind (wpAny_rule (wpAny_pure hv)))
theorem binop_of {op : Operator} {a b : Value} {Q : Value → Shared → Prop} (h : wpAny (model prog w) A (binaryOp1 op.info.2 a b) (fun r s' => ∃ v, r = some v ∧ Q v s') E s) : wpAny (model prog w) A (binaryOp op a b) Q E s := by
  unfold binaryOp
  refine wpAny_holding (wpAny_bind (wpAny_mono h (fun r s' hr => ?_) fun _ _ e => e))
  obtain ⟨v, rfl, q⟩ := hr
  exact wpAny_pure q
theorem cmp_right {op : CmpOp} {a : Int} {t : Tok} {Q : Value → Shared → Prop} (hu : A.units < cLine) (F : Fr h₀ L s.heap m) (X₀ : K.In h₀) (I : PySem.W.InstAt s.heap x ox C od) (hd : ∀ v, ox.data ≠ .prim v)
    (hs : PySem.W.findIn K (.ref C) (cmpInfo op).2.2 = some (some (.ref f))) (hf : PySem.W.isFn K (.ref f) = true) (hsub : PySem.W.subIn K (.ref C) (.type "int") = some false)
    (hde : ∀ (A : Around) (E : Value → Shared → Prop) (s : Shared) (Q : Option Value → Shared → Prop), s.heap.get? x = some ox → Q none s → wpAny (model prog w) A (tryCompare (.int a t) (cmpInfo op).2.1 (.ref x)) Q E s)
    (h : wpAny (model prog w) A (call (.ref f) [.ref x, .int a t]) (PySem.W.CmpBack Q) E s) : wpAny (model prog w) A (richCompare op (.int a t) (.ref x)) Q E s := by
  have X := X₀.keeps F.keep
  unfold richCompare
  refine wpAny_holding (wpAny_bind (wpAny_cRoomFor hu ?_))
  rw [show oneThing? op (.int a t) (.ref x) = none from rfl]
  dsimp only
  refine wpAny_bind (wpAny_typeOf (typeIs_int s a t) (wpAny_bind (I.type.here ?_)))
  rw [show (Value.type "int" != Value.ref C) = true from rfl, if_pos rfl]
  refine wpAny_bind ((PySem.W.looks_subIn X hsub).here ?_)
  simp only [Bool.false_eq_true, if_false, Bool.not_false, if_true]
  refine wpAny_bind (hde A E s _ I.at_ ?_)
  dsimp only
  refine wpAny_bind (m := tryCompare (.ref x) _ _) ?_
  unfold tryCompare
  refine wpAny_bind (PySem.W.ifBound_K X I hs hf (wpAny_mono h (fun v s' hv => ?_) fun _ _ e => e))
  cases v <;> first | exact hv.elim | exact wpAny_pure (wpAny_pure hv)
end
section
variable {prog : Program} {w : World} {A : Around} {E : Value → Shared → Prop} {s : Shared} {K : PySem.W.Frag} {x C L f g : Addr} {h₀ : Heap} {m : Str → Option Value} {ox : Obj} {od : Option Obj}
theorem unary_own {op : UnaryOp} {nm : Str} {Q : Value → Shared → Prop} (F : Fr h₀ L s.heap m) (X₀ : K.In h₀) (I : PySem.W.InstAt s.heap x ox C od) (hop : (op == .Not) = false) (hnm : (match op with
      | .Invert => ("~", ("__invert__" : Str)) | .UAdd => ("+", "__pos__") | .USub => ("-", "__neg__") | .Not => ("not", "")).2 = nm)
    (hs : PySem.W.findIn K (.ref C) nm = some (some (.ref f))) (hf : PySem.W.isFn K (.ref f) = true) (h : wpAny (model prog w) A (call (.ref f) [.ref x]) Q E s) : wpAny (model prog w) A (unaryOp op (.ref x)) Q E s := by
  have X := X₀.keeps F.keep
  unfold unaryOp
  refine wpAny_holding ?_
  subst hnm
  cases op with
  | Not => cases hop
  | Invert => exact wpAny_bind (PySem.W.special_fn X I hs (beq_iff_eq.mp hf) (wpAny_mono h (fun v s' hv => wpAny_pure hv) fun _ _ e => e))
  | UAdd => exact wpAny_bind (PySem.W.special_fn X I hs (beq_iff_eq.mp hf) (wpAny_mono h (fun v s' hv => wpAny_pure hv) fun _ _ e => e))
  | USub => exact wpAny_bind (PySem.W.special_fn X I hs (beq_iff_eq.mp hf) (wpAny_mono h (fun v s' hv => wpAny_pure hv) fun _ _ e => e))
theorem abs_own {Q : Value → Shared → Prop} (F : Fr h₀ L s.heap m) (X₀ : K.In h₀) (I : PySem.W.InstAt s.heap x ox C od) (hs : PySem.W.findIn K (.ref C) "__abs__" = some (some (.ref f))) (hf : PySem.W.isFn K (.ref f) = true)
    (h : wpAny (model prog w) A.in1 (call (.ref f) [.ref x]) Q E s) : wpAny (model prog w) A (call (.builtin "abs") [.ref x]) Q E s := by
  refine Calls.call_function_entry kind_abs plain_abs entry_abs (args_abs _) ?_
  unfold Builtin.«abs»
  refine wpAny_bind (m := oneArg "abs" _) (wpAny_pure ?_)
  refine wpAny_bind (m := callSpecial? (.ref x) (Str.ofString "__abs__")) (PySem.W.special_fn (X₀.keeps F.keep) I hs (beq_iff_eq.mp hf) (wpAny_mono h (fun r s' hr => ?_) fun _ _ y => y))
  exact wpAny_pure ⟨_, rfl, hr⟩
theorem looks_of_typeIs {T : String} {b : Value} (hT : ∀ s : Shared, s.TypeIs b T) {h : Heap} : PySem.W.Looks (model prog w) h (typeOf b) (.type T) := fun A Q E s _ q => wpAny_typeOf (hT s) q
theorem eq_ni {b : Value} {T : String} {Q : Value → Shared → Prop} (hu : A.units < cLine) (F : Fr h₀ L s.heap m) (X₀ : K.In h₀) (I : PySem.W.InstAt s.heap x ox C od) (hT : ∀ s : Shared, s.TypeIs b T) (hsub : PySem.W.subIn K (.type T) (.ref C) = some false)
    (hs : PySem.W.findIn K (.ref C) "__eq__" = some (some (.ref f))) (hf : PySem.W.isFn K (.ref f) = true)
    (h : wpAny (model prog w) A (call (.ref f) [.ref x, b]) (fun v s' => v = .notImplemented ∧ wpAny (model prog w) A (tryCompare b "__eq__" (.ref x)) (fun r s2 => r = none ∧ wpAny (model prog w) A (isSame (.ref x) b) (fun k s3 => Q (.bool k) s3) E s2) E s') E s) : wpAny (model prog w) A (richCompare .Eq (.ref x) b) Q E s := by
  have X := X₀.keeps F.keep
  unfold richCompare
  simp only [oneThing_ref]
  refine wpAny_holding (wpAny_bind (wpAny_cRoomFor hu ?_))
  rw [cmpInfo_Eq]
  dsimp only
  refine wpAny_bind (I.type.here (wpAny_bind ((looks_of_typeIs hT).here ?_)))
  rw [show (Value.ref C != Value.type T) = true from rfl, if_pos rfl]
  refine wpAny_bind ((PySem.W.looks_subIn X hsub).here ?_)
  simp only [Bool.false_eq_true, if_false, Bool.not_false, if_true]
  refine wpAny_bind (m := tryCompare (.ref x) _ _) ?_
  unfold tryCompare
  refine wpAny_bind (PySem.W.ifBound_K X I hs hf (wpAny_mono h (fun v s' hv => ?_) fun _ _ e => e))
  obtain ⟨rfl, hq⟩ := hv
  refine wpAny_pure ?_
  refine wpAny_bind (m := tryCompare b _ _) (wpAny_mono hq (fun r s2 hr => ?_) fun _ _ e => e)
  obtain ⟨rfl, hq2⟩ := hr
  refine wpAny_bind (wpAny_rule ?_)
  exact wpAny_bind (wpAny_mono hq2 (fun k s3 hk => wpAny_pure hk) fun _ _ e => e)
end
section
variable {prog : Program} {w : World} {A : Around} {E : Value → Shared → Prop} {s : Shared} {K : PySem.W.Frag} {x C L f g : Addr} {h₀ : Heap} {m : Str → Option Value} {ox : Obj} {od : Option Obj}
theorem none_eq_declines {Q : Option Value → Shared → Prop} (hq : Q none s) : wpAny (model prog w) A (tryCompare .none "__eq__" (.ref x)) Q E s := by
  refine wpAny_tryCompare_declines (T := "NoneType") (id := "NoneType.__eq__") rfl PySem.F.slot_NoneType_eq (GQ.call_here PySem.F.slot_NoneType_eq rfl PySem.F.entry_NoneType_eq (PySem.F.args_NoneType_eq_2 _ _) ?_)
  obtain ⟨hp, g, d, tk, os⟩ := s
  unfold Builtin.«NoneType.__eq__»
  wp_walk
  exact ⟨rfl, hq⟩
theorem none_ne_declines {Q : Option Value → Shared → Prop} (hq : Q none s) : wpAny (model prog w) A (tryCompare .none "__ne__" (.ref x)) Q E s := by
  refine wpAny_tryCompare_declines (T := "NoneType") (id := "NoneType.__ne__") rfl PySem.F.slot_NoneType_ne (GQ.call_here PySem.F.slot_NoneType_ne rfl PySem.F.entry_NoneType_ne (PySem.F.args_NoneType_ne_2 _ _) ?_)
  obtain ⟨hp, g, d, tk, os⟩ := s
  unfold Builtin.«NoneType.__ne__»
  wp_walk
  exact ⟨rfl, hq⟩
theorem asStr_ref {M : Model} {b : Addr} {o : Obj} {Q : Option Str → Shared → Prop} (hb : s.heap.get? b = some o) (hd : ∀ v, o.data ≠ .prim v) (hq : Q none s) : wpAny M A (asStr? (.ref b)) Q E s := by
  unfold asStr?
  refine wpAny_bind (wpAny_load hb ?_)
  split
  · rename_i i u q; exact absurd q (hd _)
  · exact wpAny_pure hq
theorem str_cmp_declines {M : Model} {nm : String} {fn : List Nat → List Nat → Bool} {y : Str} {t : Tok} {o : Obj} {Q : PySem.Fin → Shared → Prop} (hb : s.heap.get? x = some o) (hd : ∀ v, o.data ≠ .prim v) (hq : Q (.done (.ret .notImplemented)) s) :
    wpAny M A (Builtin.Str.strCompare nm fn ⟨[.str y t, .ref x], []⟩) Q E s := by
  unfold Builtin.Str.strCompare
  obtain ⟨hp, g, d, tk, os⟩ := s
  wp_walk using asStr_ref hb hd
  split
  · rename_i i u q; exact absurd q (hd _)
  · refine wpAny_pure ?_
    exact wpAny_bind (wpAny_rule (wpAny_pure hq))
theorem str_eq_declines {y : Str} {t : Tok} {o : Obj} {Q : Option Value → Shared → Prop} (hb : s.heap.get? x = some o) (hd : ∀ v, o.data ≠ .prim v) (hq : Q none s) : wpAny (model prog w) A (tryCompare (.str y t) "__eq__" (.ref x)) Q E s := by
  refine wpAny_tryCompare_declines (T := "str") (typeIs_str _ _ _) PySem.F.slot_str_eq (GQ.call_here PySem.F.slot_str_eq (typeIs_str _ _ _) PySem.F.entry_str_eq (PySem.F.args_str_eq_2 _ _) ?_)
  exact str_cmp_declines (nm := "__eq__") hb hd ⟨rfl, hq⟩
theorem str_ne_declines {y : Str} {t : Tok} {o : Obj} {Q : Option Value → Shared → Prop} (hb : s.heap.get? x = some o) (hd : ∀ v, o.data ≠ .prim v) (hq : Q none s) : wpAny (model prog w) A (tryCompare (.str y t) "__ne__" (.ref x)) Q E s := by
  refine wpAny_tryCompare_declines (T := "str") (typeIs_str _ _ _) PySem.F.slot_str_ne (GQ.call_here PySem.F.slot_str_ne (typeIs_str _ _ _) PySem.F.entry_str_ne (PySem.F.args_str_ne_2 _ _) ?_)
  exact str_cmp_declines (nm := "__ne__") hb hd ⟨rfl, hq⟩
theorem ne_try {b : Value} {Q : Option Value → Shared → Prop} (hu : A.units + 1 < cLine) (X : K.In s.heap) (I : PySem.W.InstAt s.heap x ox C od) (hn : PySem.W.findIn K (.ref C) "__ne__" = some (some (.builtin "object.__ne__"))) (hm : PySem.W.subIn K (.ref C) (.type "object") = some true)
    (hs : PySem.W.findIn K (.ref C) "__eq__" = some (some (.ref f))) (hf : PySem.W.isFn K (.ref f) = true)
    (h : wpAny (model prog w) A.in1 (call (.ref f) [.ref x, b]) (fun v s' => match v with
      | .notImplemented => Q none s'
      | .bool k => Q (some (.bool (!k))) s'
      | _ => False) E s) : wpAny (model prog w) A (tryCompare (.ref x) "__ne__" b) Q E s := by
  have body : wpAny (model prog w) A (call (.builtin "object.__ne__") ([.ref x] ++ [b])) (fun v s' => match v with
      | .notImplemented => Q none s'
      | v => Q (some v) s') E s := by
    refine wpAny_call (codeAny_call_builtin PySem.F.cmp_object.ne.plain PySem.F.cmpEntry_ne (PySem.W.check_slot PySem.F.cmpKind_ne PySem.F.cmpSplit_ne (I.type.andThen (PySem.W.looks_subIn X hm)) (PySem.F.cmpArgs_ne _ _) ?_))
    unfold Builtin.«object.__ne__»
    refine wpAny_bind (m := slotArgs "__ne__" 1 _) (wpAny_pure ?_)
    refine wpAny_bind (wpAny_cRoomFor hu ?_)
    refine wpAny_bind (m := callSpecialIfBound? (.ref x) "__eq__" [b]) (PySem.W.ifBound_K X I hs hf (wpAny_mono h (fun v s' hv => ?_) fun _ _ e => e))
    cases v <;> first | exact hv.elim | skip
    · refine wpAny_pure ?_
      exact hv
    · exact wpAny_bind (wpAny_truthy_bool (wpAny_pure hv))
  unfold tryCompare
  refine wpAny_bind ?_
  simp only [callSpecialIfBound?, bindSpecialIfBound?]
  refine wpAny_holding (wpAny_bind (wpAny_bind (wpAny_bind (I.type.here ((PySem.W.looks_findIn X hn).here ?_)))))
  have hbind : bindSpecial (.builtin "object.__ne__") (.ref x) = pure (.builtin "object.__ne__", [.ref x]) := PySem.F.cmp_object.ne.bind _
  have fin : wpAny (model prog w) A (call (.builtin "object.__ne__") ([.ref x] ++ [b]) >>= fun v => pure (some v)) (fun r s' => wpAny (model prog w) A (match r with
      | some .notImplemented | none => pure none
      | some v => pure (some v)) Q E s') E s := wpAny_bind (wpAny_mono body (fun v s' h' => wpAny_pure (by
        cases v <;> exact wpAny_pure h')) fun _ _ h' => h')
  refine wpAny_bind (wpAny_askSetting (wpAny_ite ?_))
  rw [hbind]
  split
  · exact wpAny_bind (wpAny_pure (wpAny_pure (by exact fin)))
  · exact wpAny_tryCatch (wpAny_bind (wpAny_pure (wpAny_pure (by exact fin))))
theorem ne_left {b tb : Value} {Q : Value → Shared → Prop} (hu : A.units + 1 < cLine) (F : Fr h₀ L s.heap m) (X₀ : K.In h₀) (I : PySem.W.InstAt s.heap x ox C od) (hb : PySem.W.Looks (model prog w) s.heap (typeOf b) tb) (hnf : PySem.W.notFirst K C tb = true)
    (hn : PySem.W.findIn K (.ref C) "__ne__" = some (some (.builtin "object.__ne__"))) (hm : PySem.W.subIn K (.ref C) (.type "object") = some true) (hs : PySem.W.findIn K (.ref C) "__eq__" = some (some (.ref f))) (hf : PySem.W.isFn K (.ref f) = true)
    (h : wpAny (model prog w) A.in1 (call (.ref f) [.ref x, b]) (fun v s' => ∃ k, v = .bool k ∧ Q (.bool (!k)) s') E s) : wpAny (model prog w) A (richCompare .NotEq (.ref x) b) Q E s := by
  have X := X₀.keeps F.keep
  have one : wpAny (model prog w) A (tryCompare (.ref x) "__ne__" b) (fun r s' => ∃ v, r = some v ∧ Q v s') E s := by
    refine ne_try hu X I hn hm hs hf (wpAny_mono h (fun v s' hv => ?_) fun _ _ e => e)
    obtain ⟨k, rfl, q⟩ := hv
    exact ⟨_, rfl, q⟩
  unfold richCompare
  simp only [oneThing_ref]
  refine wpAny_holding (wpAny_bind (wpAny_cRoomFor (Nat.lt_of_succ_lt hu) ?_))
  rw [cmpInfo_NotEq]
  dsimp only
  refine wpAny_bind (I.type.here (wpAny_bind (hb.here ?_)))
  split
  · rename_i q
    have e : PySem.W.subIn K tb (.ref C) = some false := by
      rcases Bool.or_eq_true_iff.mp hnf with e | e
      · rw [beq_iff_eq.mp e] at q; simp at q
      · exact beq_iff_eq.mp e
    refine wpAny_bind ((PySem.W.looks_subIn X e).here ?_)
    simp only [Bool.false_eq_true, if_false]
    refine wpAny_bind (wpAny_mono one (fun r s' z => ?_) fun _ _ e => e)
    obtain ⟨v, rfl, hq⟩ := z
    exact wpAny_pure hq
  · refine wpAny_bind (wpAny_pure ?_)
    simp only [Bool.false_eq_true, if_false]
    refine wpAny_bind (wpAny_mono one (fun r s' z => ?_) fun _ _ e => e)
    obtain ⟨v, rfl, hq⟩ := z
    exact wpAny_pure hq
theorem ne_ni {b : Value} {T : String} {Q : Value → Shared → Prop} (hu : A.units + 1 < cLine) (F : Fr h₀ L s.heap m) (X₀ : K.In h₀) (I : PySem.W.InstAt s.heap x ox C od) (hT : ∀ s : Shared, s.TypeIs b T) (hsub : PySem.W.subIn K (.type T) (.ref C) = some false)
    (hn : PySem.W.findIn K (.ref C) "__ne__" = some (some (.builtin "object.__ne__"))) (hm : PySem.W.subIn K (.ref C) (.type "object") = some true) (hs : PySem.W.findIn K (.ref C) "__eq__" = some (some (.ref f))) (hf : PySem.W.isFn K (.ref f) = true)
    (h : wpAny (model prog w) A.in1 (call (.ref f) [.ref x, b]) (fun v s' => v = .notImplemented ∧ wpAny (model prog w) A (tryCompare b "__ne__" (.ref x)) (fun r s2 => r = none ∧ wpAny (model prog w) A (isSame (.ref x) b) (fun k s3 => Q (.bool (!k)) s3) E s2) E s') E s) : wpAny (model prog w) A (richCompare .NotEq (.ref x) b) Q E s := by
  have X := X₀.keeps F.keep
  unfold richCompare
  simp only [oneThing_ref]
  refine wpAny_holding (wpAny_bind (wpAny_cRoomFor (Nat.lt_of_succ_lt hu) ?_))
  rw [cmpInfo_NotEq]
  dsimp only
  refine wpAny_bind (I.type.here (wpAny_bind ((looks_of_typeIs hT).here ?_)))
  rw [show (Value.ref C != Value.type T) = true from rfl, if_pos rfl]
  refine wpAny_bind ((PySem.W.looks_subIn X hsub).here ?_)
  simp only [Bool.false_eq_true, if_false, Bool.not_false, if_true]
  refine wpAny_bind (m := tryCompare (.ref x) _ _) (ne_try hu X I hn hm hs hf (wpAny_mono h (fun v s' hv => ?_) fun _ _ e => e))
  obtain ⟨rfl, hq⟩ := hv
  refine wpAny_bind (m := tryCompare b _ _) (wpAny_mono hq (fun r s2 hr => ?_) fun _ _ e => e)
  obtain ⟨rfl, hq2⟩ := hr
  refine wpAny_bind (wpAny_rule ?_)
  exact wpAny_bind (wpAny_mono hq2 (fun k s3 hk => wpAny_pure hk) fun _ _ e => e)
end
end Bp


set_option Elab.async false
set_option linter.all false
set_option maxRecDepth 100000
set_option maxHeartbeats 4000000
/-! Bp5: classes by a table; operators by data. -/
namespace Bp
open PySem L2 PyProof.Rows

inductive TV (mg : Str → Option Value) (tn : Tn) : Tg → Value → Prop where
  | b (n : String) : TV mg tn (.b n) (.type n)
  | c (n : Nat) (C : Addr) (h : mg (tn.nm n) = some (.ref C)) : TV mg tn (.c n) (.ref C)
structure CT where
  tn : Tn
  kn : Nat → Bool
  meth : Nat → Nat → Option (Nat × Fn)
  no : Nat → Nat → Bool
  one : Nat → Bool
  ni : Nat → Bool
  prop : Nat → Nat → Option Fn
  isi : Tg → Tg → Option Bool
  mkr : Nat → Option (Nat × List D × Fn)
  N : Nat
  exo : Nat → Bool
  xm : Nat → Tg → Option Bool
  inp : Nat → Bool
structure ExF (K : PySem.W.Frag) (mg : Str → Option Value) (tn : Tn) (c : Nat) (C : Addr) : Prop where
  mg : mg (tn.nm c) = some (.ref C)
  kp : PySem.W.keepIn K (.ref C) = true
  rs1 : PySem.W.subIn K (.ref C) (.type "BaseException") = some true
  rs2 : PySem.W.typeIn K (.ref C) = some (.type "type")
  ec : ExcC K C
structure ClsF (K : PySem.W.Frag) (mg : Str → Option Value) (tn : Tn) (c : Nat) (C : Addr) : Prop where
  mg : mg (tn.nm c) = some (.ref C)
  cls : Cls K C
  sf : PySem.W.selfFirst K C = true
  obj : PySem.W.subIn K (.ref C) (.type "object") = some true
  nint : PySem.W.subIn K (.ref C) (.type "int") = some false
  fnd : ((tn.fl c).map tn.nm).Nodup
  ca : PySem.W.findIn K (.ref C) "__class__" = some (some (.builtin "object.__class__"))
  cn : PySem.W.specialIn K (.builtin "object.__class__") "__get__" = some (some (.builtin "getset_descriptor.__get__"))
  ct : PySem.W.takesIn K (.builtin "object.__class__") = some true
  mro : PySem.W.mroIn K C (.type "object") = some true
def NiOk (P : Program) (w : World) (K : PySem.W.Frag) (mg : Str → Option Value) (base : Heap) (tn : Tn) (L : Nat) (c : Nat) (f : Addr) (fd : FuncData) : Prop :=
  ∀ (A : Around) (outer : List PySem.Env) (s : Shared) (H : Hp) (args : Args) (us : List Value) (ps : List Str) (W : Wd) (S : Store) (xs : List D) (y : D) (vs : List V) (Q : Hp → Prop),
    Room L A → Env0 P w K mg base A outer s H → BindsTo s fd args ((["self", "other"] : List Str).zip us) → Vals vs us → Rel ⟨K, mg, tn, none⟩ W S H → RepL ⟨K, mg, tn, none⟩ W [.ins c xs, y] vs → (y = .non ∨ ∃ z, y = .str z) →
    (∀ W' H', Le W W' → Rel ⟨K, mg, tn, none⟩ W' S H' → Q H') →
    codeAny (model P w) A (.call (.ref f) args) (fun r s' => r = .ok (.ret .notImplemented) ∧ CE outer P w H s (fun _ H' => Q H') .none s') s
structure CT.Ok (T : CT) (P : Program) (w : World) (K : PySem.W.Frag) (mg : Str → Option Value) (base : Heap) (L : Nat) : Prop where
  dn : ∀ k, k < 40 → T.tn.nm k = dnm k
  cls : ∀ c, T.kn c = true → ∃ C, ClsF K mg T.tn c C
  meth : ∀ c m n g, T.meth c m = some (n, g) → ∀ C, ClsF K mg T.tn c C → ∃ (f : Addr) (fd : FuncData) (ps : List Str), Meth K C (T.tn.nm m) f ∧ ps.length = n ∧ FnOk P w K mg base (L2.CX P w) L f fd ps (spM ⟨K, mg, T.tn, none⟩ n g) ∧ Binds K fd ps []
  mkn : ∀ c m n g, T.meth c m = some (n, g) → T.kn c = true
  no : ∀ c m, T.no c m = true → ∀ C, ClsF K mg T.tn c C → NoAttr K C (T.tn.nm m)
  one : ∀ c, T.one c = true → ∀ C, ClsF K mg T.tn c C → PySem.W.findIn K (.ref C) "__ne__" = some (some (.builtin "object.__ne__"))
  ni : ∀ c, T.ni c = true → ∀ C, ClsF K mg T.tn c C → ∃ (f : Addr) (fd : FuncData), Meth K C "__eq__" f ∧ NiOk P w K mg base T.tn L c f fd ∧ Binds K fd ["self", "other"] []
  nik : ∀ c, T.ni c = true → T.kn c = true
  prop : ∀ c m g, T.prop c m = some g → T.kn c = true ∧ ∀ C, ClsF K mg T.tn c C → ∃ (p ga : Addr) (fd : FuncData) (ps : List Str), PropOf K C (T.tn.nm m) p ga ∧ ps.length = 1 ∧ FnOk P w K mg base (L2.CX P w) L ga fd ps (spM ⟨K, mg, T.tn, none⟩ 1 g) ∧ Binds K fd ps []
  mkr : ∀ c n dfl g, T.mkr c = some (n, dfl, g) → T.kn c = true ∧ ∀ C, ClsF K mg T.tn c C → ∃ (f : Addr) (fd : FuncData) (ps : List Str) (dvs : List V), Mk K C f ∧ ps.length = n ∧ FnOk P w K mg base (L2.CX P w) L f fd ps (spM ⟨K, mg, T.tn, none⟩ n g) ∧ (∀ W, RepL ⟨K, mg, T.tn, none⟩ W dfl dvs) ∧ ∀ j, j ≤ dfl.length → ∃ dus, Vals (dvs.drop j) dus ∧ Binds K fd ps dus
  inj : ((List.range T.N).map T.tn.nm).Nodup
  flN : ∀ c, T.kn c = true → ∀ f ∈ T.tn.fl c, f < T.N
  exo : ∀ c, T.exo c = true → ∃ (C : Addr) (B newId initId : String) (bmB : List Value), ExF K mg T.tn c C ∧ ExcBaseFacts B newId initId bmB ∧ PySem.W.excIn K C bmB newId = true
  xm : ∀ c t r, T.xm c t = some r → ∀ C tv, mg (T.tn.nm c) = some (.ref C) → TV mg T.tn t tv → PySem.W.exmOne K (.ref C) tv = some r
  inp : ∀ c, T.inp c = true → ∀ C, ClsF K mg T.tn c C → inpFree K C = true
  isi : ∀ t c r, T.isi t c = some r → ∀ tv cv, TV mg T.tn t tv → TV mg T.tn c cv → PySem.W.kitOne K tv cv = some r
theorem ClsF.uniq {K : PySem.W.Frag} {mg : Str → Option Value} {tn : Tn} {c : Nat} {C C' : Addr} (a : ClsF K mg tn c C) (b : mg (tn.nm c) = some (.ref C')) : C' = C := by
  have := a.mg.symm.trans b
  cases this
  rfl
theorem Meth.uniq {K : PySem.W.Frag} {C : Addr} {m : Str} {f g : Addr} (a : Meth K C m f) (b : Meth K C m g) : f = g := by
  have := a.at_.symm.trans b.at_
  cases this
  rfl
def dund (T : CT) (c m : Nat) : Fn := fun args S => match T.meth c m with
  | some (n, g) => if args.length = n then g args S else .bad
  | none => .bad

section
variable {fl : Pm} {X : Cx} {Wx : WX} {T : CT} {L k : Nat}
theorem run_spMA {f : Addr} {fd : FuncData} {ps : List Str} {n : Nat} {g : Fn} {A : Around} {pins : List (Addr × Obj)} {σ : L2.St} {H : Hp} {s : Shared} {Q : VK} {us : List Value} {vs : List V} {W : Wd} {ds : List D} {S : Store}
    (F : FnOk X.prog X.w X.K X.mg X.base (L2.CX X.prog X.w) L f fd ps (spM (gx X fl) n g)) (hr : Room L A) (hfr : A.frames = X.A.frames) (hb : Binds X.K fd ps []) (tk : Takes X Wx) (I : Inv X pins σ H s) (r : Vals vs us) (hn : vs.length = n) (hn' : ps.length = n) (R : Rel (gx X fl) W S H) (rl : RepL (gx X fl) W ds vs)
    (q : Ev (RepV (gx X fl)) (gx X fl) W (g ds S) Q (fun c d H => Wx c d σ H)) : wpAny (model X.prog X.w) A (call (.ref f) us) (EP X pins σ Q) X.xe s := by
  have hl : us.length = ps.length := by rw [← r.length, hn, hn']
  have b := hb s us I.kIn (by rw [List.append_nil]; exact hl)
  rw [List.append_nil] at b
  have e0 : Env0 X.prog X.w X.K X.mg X.base A X.stack s H := by
    have e := I.env0
    exact ⟨by rw [hfr]; exact e.frames, e.mod, e.bs, e.bsz, e.funs, e.frf, e.hok, e.bare⟩
  refine wpAny_call (codeAny_mono (F.run A X.stack s H ⟨us, []⟩ us vs Q (fun c d H => Wx c d σ H) hr e0 b r ⟨hn, W, ds, S, R, rl, q⟩) fun r s' hq => ?_)
  cases r with
  | error e => exact passAt tk σ pins H s e s' I hq
  | ok fl =>
    cases fl with
    | ret u => exact I.after hq
    | next => exact False.elim hq
    | brk => exact False.elim hq
    | cont => exact False.elim hq
theorem inst_of {c : Nat} {xs : List D} {v : V} {u : Value} {W : Wd} {S : Store} {H : Hp} {pins : List (Addr × Obj)} {σ : L2.St} {s : Shared} (I : Inv X pins σ H s) (R : Rel (gx X fl) W S H) (r : RepV (gx X fl) W (.ins c xs) v) (ru : RelV v u) :
    ∃ a C dx fvs od, v = .ref a ∧ u = .ref a ∧ X.mg (fl.tn.nm c) = some (.ref C) ∧ H a = some (.ins C dx fvs) ∧ fvs.map (·.1) = (fl.tn.fl c).map fl.tn.nm ∧ RepL (gx X fl) W xs (fvs.map (·.2)) ∧ PySem.W.InstAt s.heap a (PySem.W.instObj C dx) C (some od) := by
  cases r with
  | ins _ _ a C dx fvs hc h hk rl =>
    cases ru
    obtain ⟨mA, O, _⟩ := ins_get I.hok (R.fr _ _ h)
    obtain ⟨od, J, _⟩ := O.look
    exact ⟨a, C, dx, fvs, od, rfl, rfl, hc, R.fr _ _ h, hk, rl, J⟩
theorem inst_prim {C dx : Addr} : ∀ v, (PySem.W.instObj C dx).data ≠ .prim v := fun v h => by cases h
theorem run_dund {c m : Nat} {ds : List D} {vs : List V} {us : List Value} {A : Around} {pins : List (Addr × Obj)} {σ : L2.St} {H : Hp} {s : Shared} {Q : VK} {W : Wd} {S : Store} {C : Addr} (hT : T.Ok X.prog X.w X.K X.mg X.base L) (htn : T.tn = fl.tn) (hfx : fl.x = none) (hr : Room L A) (hfr : A.frames = X.A.frames) (tk : Takes X Wx)
    (I : Inv X pins σ H s) (R : Rel (gx X fl) W S H) (cf : X.mg (fl.tn.nm c) = some (.ref C)) (r : Vals vs us) (rl : RepL (gx X fl) W ds vs) (q : Ev (RepV (gx X fl)) (gx X fl) W (dund T c m ds S) Q (fun c d H => Wx c d σ H)) :
    ClsF X.K X.mg fl.tn c C ∧ ∃ f, Meth X.K C (fl.tn.nm m) f ∧ wpAny (model X.prog X.w) A (call (.ref f) us) (EP X pins σ Q) X.xe s := by
  unfold dund at q
  split at q
  · rename_i n g hm
    split at q
    · rename_i hn
      obtain ⟨C', cl⟩ := hT.cls c (hT.mkn c m n g hm)
      rw [htn] at cl
      have := cl.uniq cf
      subst this
      obtain ⟨f, fd, ps, M, h1, F, hb⟩ := hT.meth c m n g hm C (by rw [htn]; exact cl)
      rw [htn] at M F
      rw [← gx_none hfx] at F
      exact ⟨cl, f, M, run_spMA F hr hfr hb tk I r (by rw [← rl.length]; exact hn) h1 R rl q⟩
    · exact q.elim
  · exact q.elim
theorem ep_cmpback {pins : List (Addr × Obj)} {σ : L2.St} {Q : VK} {v : Value} {s' : Shared} (h : EP X pins σ Q v s') : PySem.W.CmpBack (EP X pins σ Q) v s' := by
  obtain ⟨z, H', I', r, q⟩ := h
  exact SlX.cmpback r ⟨z, H', I', r, q⟩
/-! ### ints -/
def intOp : Operator → Int → Int → Option Int
  | .Add, i, j => some (i + j)
  | .Sub, i, j => some (i - j)
  | .Mult, i, j => if i.natAbs.log2 + j.natAbs.log2 < 1000000 then some (i * j) else none
  | .FloorDiv, i, j => if j ≠ 0 ∧ j.natAbs.log2 < 9000 then some (i.fdiv j) else none
  | .Mod, i, j => if j ≠ 0 then some (i.fmod j) else none
  | .Pow, i, j => if 0 ≤ j ∧ j ≤ 1000000 ∧ i.natAbs < 2 ^ 64 then some (i ^ j.toNat) else none
  | _, _, _ => none
theorem op_fdivX : OpR X (binaryOp .FloorDiv) (rI (fun _ j => j ≠ 0 ∧ j.natAbs.log2 < 9000) fun i j => .int (i.fdiv j)) := opI fun i j _ _ _ _ _ hc q => floordiv_int hc.1 q (.inl (PyProof.noPylong_of_log2 hc.2))
theorem int_op_run {op : Operator} {i j n : Int} {v u : Value} {pins : List (Addr × Obj)} {σ : L2.St} {H : Hp} {s : Shared} {Q : VK} (I : Inv X pins σ H s) (rx : RelV (.int i) v) (ry : RelV (.int j) u) (h : intOp op i j = some n) (q : Q (.int n) H) :
    wpAny (model X.prog X.w) X.A (binaryOp op v u) (EP X pins σ Q) X.xe s := by
  cases op with
  | Add => cases h; exact op_add pins s σ H _ _ v u Q I rx ry ⟨i, j, rfl, rfl, q⟩
  | Sub => cases h; exact op_sub pins s σ H _ _ v u Q I rx ry ⟨i, j, rfl, rfl, q⟩
  | Mult =>
    have h' : (if i.natAbs.log2 + j.natAbs.log2 < 1000000 then some (i * j) else none) = some n := h
    split at h'
    · rename_i hc; cases h'; exact op_mulW pins s σ H _ _ v u Q I rx ry ⟨i, j, rfl, rfl, hc, q⟩
    · cases h'
  | FloorDiv =>
    have h' : (if j ≠ 0 ∧ j.natAbs.log2 < 9000 then some (i.fdiv j) else none) = some n := h
    split at h'
    · rename_i hc; cases h'; exact op_fdivX pins s σ H _ _ v u Q I rx ry ⟨i, j, rfl, rfl, hc, q⟩
    · cases h'
  | Mod =>
    have h' : (if j ≠ 0 then some (i.fmod j) else none) = some n := h
    split at h'
    · rename_i hc; cases h'; exact op_modN pins s σ H _ _ v u Q I rx ry ⟨i, j, rfl, rfl, hc, q⟩
    · cases h'
  | Pow =>
    have h' : (if 0 ≤ j ∧ j ≤ 1000000 ∧ i.natAbs < 2 ^ 64 then some (i ^ j.toNat) else none) = some n := h
    split at h'
    · rename_i hc; cases h'; exact op_pow pins s σ H _ _ v u Q I rx ry ⟨i, j, rfl, rfl, hc, q⟩
    · cases h'
  | _ => cases h
def dop : Operator → Nat
  | .Add => 1 | .Sub => 3 | .Mult => 5 | .FloorDiv => 7 | .Mod => 9 | .Pow => 11 | _ => 39
def rop : Operator → Nat
  | .Add => 2 | .Sub => 4 | .Mult => 6 | .FloorDiv => 8 | .Mod => 10 | .Pow => 12 | _ => 39
def lstD (d : D) (S : Store) : Option (List D) := match d with
  | .rl xs => some xs
  | .ref n => (match S[n]? with
    | some (.lst xs) => some xs
    | _ => none)
  | _ => none
theorem lstD_ok {G : Gs} {W : Wd} {S : Store} {H : Hp} {d : D} {v : V} {xs : List D} (R : Rel G W S H) (r : RepV G W d v) (h : lstD d S = some xs) : ∃ A vs, v = .ref A ∧ H A = some (.lst vs) ∧ RepL G W xs vs := by
  cases r with
  | rl _ vs A hA rv => cases h; exact ⟨A, vs, rfl, R.fr _ _ hA, rv⟩
  | ref n A hA =>
    unfold lstD at h
    dsimp only at h
    split at h
    · rename_i ys hS
      cases h
      obtain ⟨ho, g, o⟩ := R.obj n A _ hA hS
      cases o with
      | lst _ vs rv => exact ⟨A, vs, rfl, g, rv⟩
    · cases h
  | _ => cases h
def catD (op : Operator) (a b : D) (S : Store) : Res D := match lstD a S, lstD b S with
  | some xs, some ys => if op = .Add ∧ xs.length + ys.length ≤ sizeLine then .ok (.ref S.length) (S ++ [.lst (xs ++ ys)]) else .bad
  | _, _ => .bad
def opD (T : CT) (op : Operator) (a b : D) (S : Store) : Res D := match a, b with
  | .int i, .int j => (match intOp op i j with
    | some n => .ok (.int n) S
    | none => .bad)
  | .str x, .str y => if op = .Add ∧ x.length + y.length ≤ sizeLine then .ok (.str (x ++ y)) S else .bad
  | .ins c xs, .ins c' ys => if c = c' ∧ dop op ≠ 39 then dund T c (dop op) [.ins c xs, .ins c' ys] S else .bad
  | .ins c xs, .int j => if dop op ≠ 39 ∧ dop op ≠ 11 ∧ (T.meth c (rop op)).isSome = true then dund T c (dop op) [.ins c xs, .int j] S else if dop op = 11 ∧ T.no c 12 = true then dund T c 11 [.ins c xs, .int j] S else .bad
  | .tup xs, .tup ys => if op = .Add ∧ xs.length + ys.length ≤ sizeLine then .ok (.tup (xs ++ ys)) S else .bad
  | .int i, .ins c ys => if dop op ≠ 39 ∧ dop op ≠ 11 ∧ (T.meth c (dop op)).isSome = true then dund T c (rop op) [.ins c ys, .int i] S else .bad
  | a, b => catD op a b S
theorem dop_nm (h : ∀ k, k < 40 → T.tn.nm k = dnm k) {op : Operator} (ho : dop op ≠ 39) : T.tn.nm (dop op) = PySem.dunder op.info.2 ∧ T.tn.nm (rop op) = dunderR op.info.2 := by
  cases op <;> first | (exact absurd rfl ho) | (constructor <;> (rw [h _ (by decide)]; decide +kernel))
theorem fills_int {op : Operator} (ho : dop op ≠ 39) : fillsNumberSlot (.type "int") op.info.2 = pure true := by
  cases op <;> first | (exact absurd rfl ho) | exact fills_int_add | exact fills_int_sub | exact PySem.F.fills_int_mul | exact PySem.F.fills_int_floordiv | exact fills_int_mod | exact PySem.F.fills_int_pow
theorem rlook_int {op : Operator} (ho : dop op ≠ 39) : ∃ o, typeLookup (.type "int") (dunderR op.info.2) = pure o := by
  cases op
  case Add => exact ⟨some (.builtin "int.__radd__"), by rw [typeLookup_type, builtinLookup_eq_fast]; kernel_rfl⟩
  case Sub => exact ⟨some (.builtin "int.__rsub__"), by rw [typeLookup_type, builtinLookup_eq_fast]; kernel_rfl⟩
  case Mult => exact ⟨some (.builtin "int.__rmul__"), by rw [typeLookup_type, builtinLookup_eq_fast]; kernel_rfl⟩
  case FloorDiv => exact ⟨some (.builtin "int.__rfloordiv__"), by rw [typeLookup_type, builtinLookup_eq_fast]; kernel_rfl⟩
  case Mod => exact ⟨some (.builtin "int.__rmod__"), by rw [typeLookup_type, builtinLookup_eq_fast]; kernel_rfl⟩
  case Pow => exact ⟨some (.builtin "int.__rpow__"), by rw [typeLookup_type, builtinLookup_eq_fast]; kernel_rfl⟩
  all_goals exact absurd rfl ho
theorem decl_int {prog : Program} {w : World} {op : Operator} (ho : dop op ≠ 39) (h11 : dop op ≠ 11) : IntDecl prog w (PySem.dunder op.info.2) := by
  cases op <;> first | (exact absurd rfl ho) | (exact absurd rfl h11) | exact intDecl_add | exact intDecl_sub | exact intDecl_mul | exact intDecl_fd | exact intDecl_mod
theorem subInt {K : PySem.W.Frag} {C : Addr} : PySem.W.subIn K (.type "int") (.ref C) = some false := by
  have e : ∃ l : List Value, PySem.fastBuiltinMro "int" = some l ∧ l.all (fun v => match v with | .type _ => true | _ => false) = true := ⟨_, rfl, by decide +kernel⟩
  obtain ⟨l, e1, e2⟩ := e
  show (PySem.fastBuiltinMro "int").map (·.contains (.ref C)) = some false
  rw [e1]
  show some (l.contains (.ref C)) = some false
  congr 1
  rw [Bool.eq_false_iff]
  intro h
  have := List.contains_iff_mem.mp h
  have := List.all_eq_true.mp e2 _ this
  cases this
theorem bin_op {op : Operator} (hT : T.Ok X.prog X.w X.K X.mg X.base L) (htn : T.tn = fl.tn) (C0 : Cxt fl X Wx k) (hL : L ≤ k) : Bin2 fl X Wx (binaryOp op) (opD T op) := by
  intro pins s σ H x y v u W a b S Q I rx ry R ra rb q
  have hr : Room L X.A := C0.hr.mono hL
  obtain ⟨mfr, hF⟩ := I.fr
  unfold opD at q
  split at q
  · rename_i i j
    cases ra; cases rb
    split at q
    · rename_i n hn
      exact int_op_run I rx ry hn (q W _ H (.refl W) R (.int n))
    · exact q.elim
  · cases ra; cases rb
    split at q
    · rename_i hc
      obtain ⟨rfl, hz⟩ := hc
      exact op_add_str pins s σ H _ _ v u Q I rx ry ⟨_, _, rfl, rfl, hz, q W _ H (.refl W) R (.str _)⟩
    · exact q.elim
  · rename_i c xs c' ys
    split at q
    · rename_i hc
      obtain ⟨rfl, ho⟩ := hc
      obtain ⟨e1, e2⟩ := dop_nm hT.dn ho
      obtain ⟨A1, C, dx, fvs, od, rfl, rfl, hm, hH, _, _, J⟩ := inst_of I R ra rx
      obtain ⟨A2, C2, dx2, fvs2, od2, rfl, rfl, hm2, hH2, _, _, J2⟩ := inst_of I R rb ry
      rw [hm] at hm2
      cases hm2
      obtain ⟨cl, f, M, run⟩ := run_dund (vs := [.ref A1, .ref A2]) (us := [.ref A1, .ref A2]) hT htn C0.fx hr rfl C0.tk I R hm (.cons rfl (.cons rfl .nil)) (.cons ra (.cons rb .nil)) q
      rw [← htn, e1] at M
      exact binop_of (binop1_same hF I.ok.mod.kin J J2.type cl.sf M.at_ M.fn (wpAny_mono run (fun v s' hv => by
        have := ep_cmpback hv
        cases v <;> first | exact this.elim | exact ⟨_, rfl, this⟩) fun _ _ e => e))
    · exact q.elim
  · rename_i c xs j
    obtain ⟨A1, C, dx, fvs, od, rfl, rfl, hm, hH, _, _, J⟩ := inst_of I R ra rx
    cases rb
    obtain ⟨t, rfl⟩ := ry
    have fin : ∀ {o : Option Value}, dop op ≠ 39 → (∀ C', ClsF X.K X.mg fl.tn c C' → PySem.W.findIn X.K (.ref C') (dunderR op.info.2) = some o) → (∀ b, o ≠ some (.builtin b)) → Ev (RepV (gx X fl)) (gx X fl) W (dund T c (dop op) [.ins c xs, .int j] S) Q (fun c d H => Wx c d σ H) →
        wpAny (model X.prog X.w) X.A (binaryOp op (.ref A1) (.int j t)) (EP X pins σ Q) X.xe s := by
      intro o ho hro hob q
      obtain ⟨e1, e2⟩ := dop_nm hT.dn ho
      obtain ⟨cl, f, M, run⟩ := run_dund (vs := [.ref A1, .int j]) (us := [.ref A1, .int j t]) hT htn C0.fx hr rfl C0.tk I R hm (.cons rfl (.cons ⟨t, rfl⟩ .nil)) (.cons ra (.cons (.int j) .nil)) q
      rw [← htn, e1] at M
      obtain ⟨o', ho'⟩ := rlook_int ho
      exact binop_of (binop1_left (tb := .type "int") (rb := true) (np := false) hF I.ok.mod.kin J (fun A' Q' E' s' _ q' => wpAny_typeOf (typeIs_int s' j t) q') rfl cl.sf M.at_ M.fn (hro C cl) hob (PySem.W.looks_subIn I.kIn subInt) (fun A' Q' E' s' _ q' => wpAny_of_eq (fills_int ho) q') (fun A' Q' E' s' _ q' => wpAny_of_eq (a := false) (by rfl) q')
        (fun _ => ⟨o', fun A' Q' E' s' _ q' => wpAny_of_eq ho' q'⟩) (wpAny_mono run (fun v s' hv => by
          have := ep_cmpback hv
          cases v <;> first | exact this.elim | exact ⟨_, rfl, this⟩) fun _ _ e => e))
    split at q
    · rename_i hc
      obtain ⟨ho, h11, hrm⟩ := hc
      obtain ⟨e1, e2⟩ := dop_nm hT.dn ho
      obtain ⟨⟨nr, gr⟩, hrm'⟩ := Option.isSome_iff_exists.mp hrm
      obtain ⟨C', cl'⟩ := hT.cls c (hT.mkn _ _ _ _ hrm')
      obtain ⟨fr, _, _, Mr, _⟩ := hT.meth c (rop op) nr gr hrm' C' cl'
      refine fin (o := some (.ref fr)) ho (fun C2 cl2 => ?_) (fun b => by simp) q
      rw [htn] at cl'
      have := cl'.uniq cl2.mg
      subst this
      rw [← e2]
      exact Mr.at_
    · split at q
      · rename_i hc
        obtain ⟨h11, hno⟩ := hc
        have ho : dop op ≠ 39 := by rw [h11]; decide
        obtain ⟨e1, e2⟩ := dop_nm hT.dn ho
        refine fin (o := none) ho (fun C2 cl2 => ?_) (fun b => by simp) (by rw [h11]; exact q)
        have z := hT.no c 12 hno C2 (by rw [htn]; exact cl2)
        have : rop op = 12 := by cases op <;> first | rfl | cases h11
        rw [← e2, this]
        exact z
      · exact q.elim
  · rename_i xs ys
    cases ra with
    | tup _ vs A hA r1 =>
    cases rb with
    | tup _ us B hB r2 =>
      cases rx; cases ry
      split at q
      · rename_i hc
        obtain ⟨rfl, hz⟩ := hc
        refine op_catA pins s σ H (.ref A) (.ref B) _ _ Q I rfl rfl ⟨A, B, vs, us, rfl, rfl, hA.sqt R.fr, hB.sqt R.fr, by rw [← r1.length, ← r2.length]; exact hz, fun z => ?_, fun _ z => ?_, fun _ _ p hp => ?_⟩
        · subst z
          cases r1
          exact q W _ H (.refl W) R (.tup _ _ B hB r2)
        · subst z
          cases r2
          rw [List.append_nil] at q
          exact q W _ H (.refl W) R (.tup _ _ A hA r1)
        · obtain ⟨l2, R2⟩ := R.fix hp (.tup (vs ++ us))
          exact q _ _ _ l2 R2 (.tup _ _ p (.inl upd_same) ((r1.append r2).mono l2))
      · exact q.elim
  · rename_i i c ys
    split at q
    · rename_i hc
      obtain ⟨ho, h11, hdm⟩ := hc
      obtain ⟨e1, e2⟩ := dop_nm hT.dn ho
      obtain ⟨⟨nr, gr⟩, hdm'⟩ := Option.isSome_iff_exists.mp hdm
      obtain ⟨C', cl'⟩ := hT.cls c (hT.mkn _ _ _ _ hdm')
      obtain ⟨fd, _, _, Md, _⟩ := hT.meth c (dop op) nr gr hdm' C' cl'
      obtain ⟨A1, C, dx, fvs, od, rfl, rfl, hm, hH, _, _, J⟩ := inst_of I R rb ry
      rw [htn] at cl'
      have := cl'.uniq hm
      subst this
      cases ra
      obtain ⟨t, rfl⟩ := rx
      obtain ⟨cl, f, M, run⟩ := run_dund (vs := [.ref A1, .int i]) (us := [.ref A1, .int i t]) hT htn C0.fx hr rfl C0.tk I R hm (.cons rfl (.cons ⟨t, rfl⟩ .nil)) (.cons rb (.cons (.int i) .nil)) q
      rw [← htn, e2] at M
      rw [e1] at Md
      exact binop_of (binop1_right hF I.ok.mod.kin J cl.sf inst_prim Md.at_ M.at_ M.fn cl.nint (fills_int ho) (decl_int ho h11) (wpAny_mono run (fun v s' hv => by
        have := ep_cmpback hv
        cases v <;> first | exact this.elim | exact ⟨_, rfl, this⟩) fun _ _ e => e))
    · exact q.elim
  · unfold catD at q
    split at q
    · rename_i xs ys e1 e2
      split at q
      · rename_i hc
        obtain ⟨rfl, hz⟩ := hc
        obtain ⟨A, vs, rfl, g1, r1⟩ := lstD_ok R ra e1
        obtain ⟨B, us, rfl, g2, r2⟩ := lstD_ok R rb e2
        refine op_cat pins s σ H (.ref A) (.ref B) _ _ Q I rx ry ⟨A, B, vs, us, rfl, rfl, g1, g2, by rw [← r1.length, ← r2.length]; exact hz, fun p hp => ?_⟩
        have lw : Le W ⟨W.F, W.μ ++ [p], W.xs⟩ := ⟨fun _ _ e => e, List.prefix_append _ _, List.prefix_rfl⟩
        obtain ⟨l2, R2⟩ := R.new hp (o := .lst (xs ++ ys)) (ho := .lst (vs ++ us)) (.lst _ _ (RepL.mono lw (r1.append r2)))
        exact q _ _ _ l2 R2 (.ref _ _ (by show (W.μ ++ [p])[S.length]? = some p; rw [← R.len]; simp))
      · exact q.elim
    · exact q.elim
def isI : D → Bool
  | .ins _ _ => true
  | _ => false
/-! ### in place -/
def ipD (T : CT) (op : Operator) (a b : D) (S : Store) : Res D := match a, b with
  | .int i, .int j => (match op with
    | .Add => .ok (.int (i + j)) S
    | .Sub => .ok (.int (i - j)) S
    | _ => .bad)
  | .ins c xs, b => if T.inp c = true ∧ T.kn c = true ∧ dop op ≠ 39 then opD T op (.ins c xs) b S else .bad
  | .int i, .ins c ys => if dop op ≠ 39 then opD T op (.int i) (.ins c ys) S else .bad
  | _, _ => .bad
end
end Bp


set_option Elab.async false
set_option linter.all false
set_option maxRecDepth 100000
set_option maxHeartbeats 4000000
/-! Bp6: comparisons, truth, attributes, isinstance, subscripts, built-ins. -/
namespace Bp
open PySem L2 PyProof.Rows

def eqS : D → D → Option Bool
  | .non, .non => some true | .non, .int _ => some false | .int _, .non => some false | .non, .bl _ => some false | .bl _, .non => some false | .non, .str _ => some false | .str _, .non => some false
  | .int i, .int j => some (decide (i = j)) | .bl i, .bl j => some (decide (i = j)) | .str i, .str j => some (decide (i = j))
  | .int _, .str _ => some false | .str _, .int _ => some false | .bl _, .str _ => some false | .str _, .bl _ => some false
  | _, _ => none
def cop : CmpOp → Nat
  | .Eq => 13 | .NotEq => 14 | .Lt => 15 | .LtE => 16 | .Gt => 17 | .GtE => 18 | _ => 39
def copR : CmpOp → Nat
  | .Eq => 13 | .NotEq => 14 | .Lt => 17 | .LtE => 18 | .Gt => 15 | .GtE => 16 | _ => 39
def intCmp : CmpOp → Int → Int → Option Bool
  | .Lt, i, j => some (decide (i < j)) | .LtE, i, j => some (decide (i ≤ j)) | .Gt, i, j => some (decide (j < i)) | .GtE, i, j => some (decide (j ≤ i))
  | .Eq, i, j => some (decide (i = j)) | .NotEq, i, j => some (!decide (i = j))
  | _, _, _ => none
def notR (r : Res D) : Res D := r.bind fun d S => match d with
  | .bl b => .ok (.bl (!b)) S
  | _ => .bad
def cmpD (T : CT) (op : CmpOp) (a b : D) (S : Store) : Res D := match a, b with
  | .int i, .int j => (match intCmp op i j with
    | some k => .ok (.bl k) S
    | none => .bad)
  | .ins c xs, .ins c' ys => if c = c' then (match op with
    | .NotEq => if T.one c = true then notR (dund T c 13 [.ins c xs, .ins c' ys] S) else .bad
    | _ => if cop op ≠ 39 then dund T c (cop op) [.ins c xs, .ins c' ys] S else .bad) else .bad
  | .ins c xs, .int j => (match op with
    | .NotEq => if T.one c = true then notR (dund T c 13 [.ins c xs, .int j] S) else .bad
    | _ => if cop op ≠ 39 then dund T c (cop op) [.ins c xs, .int j] S else .bad)
  | .int i, .ins c ys => (match op with
    | .NotEq => if T.one c = true then notR (dund T c 13 [.ins c ys, .int i] S) else .bad
    | _ => if cop op ≠ 39 then dund T c (copR op) [.ins c ys, .int i] S else .bad)
  | .ins c xs, .non => (match op with
    | .Eq => if T.ni c = true then .ok (.bl false) S else .bad
    | .NotEq => if T.ni c = true ∧ T.one c = true then .ok (.bl true) S else .bad
    | _ => .bad)
  | .ins c xs, .str y => (match op with
    | .Eq => if T.ni c = true then .ok (.bl false) S else .bad
    | .NotEq => if T.ni c = true ∧ T.one c = true then .ok (.bl true) S else .bad
    | _ => .bad)
  | .str x, .str y => (match op with
    | .Eq => .ok (.bl (decide (x = y))) S
    | .NotEq => .ok (.bl (!decide (x = y))) S
    | .Lt => .ok (.bl (decide (x.cps.toList < y.cps.toList))) S
    | _ => .bad)
  | a, b => (match op with
    | .Eq => (match eqS a b with
      | some k => .ok (.bl k) S
      | none => .bad)
    | .NotEq => (match eqS a b with
      | some k => .ok (.bl (!k)) S
      | none => .bad)
    | _ => .bad)
section
variable {fl : Pm} {X : Cx} {Wx : WX} {T : CT} {L k : Nat}
theorem cop_nm (h : ∀ k, k < 40 → T.tn.nm k = dnm k) {op : CmpOp} (ho : cop op ≠ 39) : T.tn.nm (cop op) = (cmpInfo op).2.1 ∧ T.tn.nm (copR op) = (cmpInfo op).2.2 := by
  cases op <;> first | (exact absurd rfl ho) | (constructor <;> (rw [h _ (by decide)]; decide +kernel))
theorem int_cmp_run {op : CmpOp} {i j : Int} {n : Bool} {v u : Value} {pins : List (Addr × Obj)} {σ : L2.St} {H : Hp} {s : Shared} {Q : VK} (I : Inv X pins σ H s) (rx : RelV (.int i) v) (ry : RelV (.int j) u) (h : intCmp op i j = some n) (q : Q (.bl n) H) :
    wpAny (model X.prog X.w) X.A (compareOp op v u) (EP X pins σ Q) X.xe s := by
  cases op with
  | Lt => cases h; exact op_lt pins s σ H _ _ v u Q I rx ry ⟨i, j, rfl, rfl, q⟩
  | LtE => cases h; exact op_le pins s σ H _ _ v u Q I rx ry ⟨i, j, rfl, rfl, q⟩
  | Gt => cases h; exact op_gt pins s σ H _ _ v u Q I rx ry ⟨i, j, rfl, rfl, q⟩
  | GtE => cases h; exact op_ge pins s σ H _ _ v u Q I rx ry ⟨i, j, rfl, rfl, q⟩
  | Eq => cases h; exact op_eq pins s σ H _ _ v u Q I rx ry ⟨rfl, by rw [show decide (V.int i = V.int j) = decide (i = j) by simp]; exact q⟩
  | NotEq => cases h; exact op_ne pins s σ H _ _ v u Q I rx ry ⟨rfl, by rw [show decide (V.int i = V.int j) = decide (i = j) by simp]; exact q⟩
  | _ => cases h
theorem eqS_ok {G : Gs} {W : Wd} {a b : D} {x y : V} {r : Bool} (ra : RepV G W a x) (rb : RepV G W b y) (h : eqS a b = some r) : scal x y = true ∧ decide (x = y) = r := by
  cases ra <;> cases rb <;> first | (cases h; done) | (cases h; exact ⟨rfl, by simp⟩)
theorem tryCmp_int {prog : Program} {w : World} {op : CmpOp} (ho : cop op ≠ 39) {i : Int} {t : Tok} {b : Addr} {o : Obj} (hd : ∀ v, o.data ≠ .prim v) (A : Around) (E : Value → Shared → Prop) (s : Shared) (Q : Option Value → Shared → Prop) (hb : s.heap.get? b = some o) (hq : Q none s) :
    wpAny (model prog w) A (tryCompare (.int i t) (cmpInfo op).2.1 (.ref b)) Q E s := by
  have go : ∀ {nm : Str} {id name : String} {f : Int → Int → Sem PySem.Fin} {B : Builtin}, Slot "int" nm id → entryFor table id = some B → (∀ a b, argsOk id ⟨[a, b], []⟩) → B = Builtin.Int.intBinary name f false → wpAny (model prog w) A (tryCompare (.int i t) nm (.ref b)) Q E s := by
    intro nm id name f B slot entry args hB
    refine wpAny_tryCompare_declines (typeIs_int _ _ _) slot (GQ.call_here slot (typeIs_int _ _ _) entry (args _ _) ?_)
    rw [hB]
    exact intBin_declines hb hd ⟨rfl, hq⟩
  cases op with
  | Eq => exact go PySem.F.slot_int_eq PySem.F.entry_int_eq PySem.F.args_int_eq_2 rfl
  | NotEq => exact go PySem.F.slot_int_ne PySem.F.entry_int_ne PySem.F.args_int_ne_2 rfl
  | Lt => exact go PySem.F.slot_int_lt PySem.F.entry_int_lt PySem.F.args_int_lt_2 rfl
  | LtE => exact go PySem.F.slot_int_le PySem.F.entry_int_le PySem.F.args_int_le_2 rfl
  | Gt => exact go PySem.F.slot_int_gt PySem.F.entry_int_gt PySem.F.args_int_gt_2 rfl
  | GtE => exact go PySem.F.slot_int_ge PySem.F.entry_int_ge PySem.F.args_int_ge_2 rfl
  | _ => exact absurd rfl ho
theorem cmpOp_rich {op : CmpOp} (ho : cop op ≠ 39) (a b : Value) : compareOp op a b = richCompare op a b := by
  cases op <;> first | rfl | exact absurd rfl ho
theorem ep_notb {pins : List (Addr × Obj)} {σ : L2.St} {Q : VK} {v : Value} {s' : Shared} {W : Wd} (h : EP X pins σ (fun z H' => ∃ W' d S', Le W W' ∧ Rel (gx X fl) W' S' H' ∧ RepV (gx X fl) W' d z ∧ Ev (RepV (gx X fl)) (gx X fl) W' ((match d with | .bl b => .ok (.bl (!b)) S' | _ => .bad : Res D)) Q (fun c d H => Wx c d σ H)) v s') :
    ∃ kk, v = .bool kk ∧ EP X pins σ Q (.bool (!kk)) s' := by
  obtain ⟨z, H', I', r, W', d, S', l, R', rd, q⟩ := h
  cases rd with
  | bl b =>
    cases r
    exact ⟨b, rfl, .bl (!b), H', I', rfl, q W' _ H' (.refl W') R' (.bl (!b))⟩
  | _ => exact (show False from q).elim
theorem subTy {K : PySem.W.Frag} {C : Addr} {n : String} (h : (PySem.fastBuiltinMro n).any (fun l => l.all (fun v => match v with | .type _ => true | _ => false)) = true) : PySem.W.subIn K (.type n) (.ref C) = some false := by
  obtain ⟨l, e1, e2⟩ := PySem.W.any_some h
  show (PySem.fastBuiltinMro n).map (·.contains (.ref C)) = some false
  rw [e1]
  show some (l.contains (.ref C)) = some false
  congr 1
  rw [Bool.eq_false_iff]
  intro h
  have := List.contains_iff_mem.mp h
  have := List.all_eq_true.mp e2 _ this
  cases this
theorem ne_right {prog : Program} {w : World} {A : Around} {E : Value → Shared → Prop} {s : Shared} {K : PySem.W.Frag} {x C L f : Addr} {h₀ : Heap} {m : Str → Option Value} {ox : Obj} {od : Option Obj} {a : Int} {t : Tok} {Q : Value → Shared → Prop} (hu : A.units + 1 < cLine) (F : Fr h₀ L s.heap m) (X₀ : K.In h₀) (I : PySem.W.InstAt s.heap x ox C od) (hd : ∀ v, ox.data ≠ .prim v)
    (hn : PySem.W.findIn K (.ref C) "__ne__" = some (some (.builtin "object.__ne__"))) (hm : PySem.W.subIn K (.ref C) (.type "object") = some true) (hs : PySem.W.findIn K (.ref C) "__eq__" = some (some (.ref f))) (hf : PySem.W.isFn K (.ref f) = true) (hsub : PySem.W.subIn K (.ref C) (.type "int") = some false)
    (h : wpAny (model prog w) A.in1 (call (.ref f) [.ref x, .int a t]) (fun v s' => ∃ k, v = .bool k ∧ Q (.bool (!k)) s') E s) : wpAny (model prog w) A (richCompare .NotEq (.int a t) (.ref x)) Q E s := by
  have X := X₀.keeps F.keep
  unfold richCompare
  refine wpAny_holding (wpAny_bind (wpAny_cRoomFor (Nat.lt_of_succ_lt hu) ?_))
  rw [show oneThing? .NotEq (.int a t) (.ref x) = none from rfl]
  dsimp only
  refine wpAny_bind (wpAny_typeOf (typeIs_int s a t) (wpAny_bind (I.type.here ?_)))
  rw [show (Value.type "int" != Value.ref C) = true from rfl, if_pos rfl]
  refine wpAny_bind ((PySem.W.looks_subIn X hsub).here ?_)
  simp only [Bool.false_eq_true, if_false, Bool.not_false, if_true]
  refine wpAny_bind (tryCmp_int (op := .NotEq) (by decide) hd A E s _ I.at_ ?_)
  dsimp only
  refine wpAny_bind (m := tryCompare (.ref x) _ _) ?_
  rw [cmpInfo_NotEq]
  dsimp only
  refine ne_try hu X I hn hm hs hf (wpAny_mono h (fun v s' hv => ?_) fun _ _ e => e)
  obtain ⟨k, rfl, q⟩ := hv
  exact wpAny_pure q
theorem ni_run {c : Nat} {xs : List D} {y : D} {yv : V} {u : Value} {A1 C : Addr} {A : Around} {pins : List (Addr × Obj)} {σ : L2.St} {H : Hp} {s : Shared} {W : Wd} {S : Store} {R' : Value → Shared → Prop} (hT : T.Ok X.prog X.w X.K X.mg X.base L) (htn : T.tn = fl.tn) (hfx : fl.x = none) (hni : T.ni c = true) (hr : Room L A) (hfr : A.frames = X.A.frames) (I : Inv X pins σ H s) (R : Rel (gx X fl) W S H)
    (ra : RepV (gx X fl) W (.ins c xs) (.ref A1)) (rb : RepV (gx X fl) W y yv) (ry : RelV yv u) (hy : y = .non ∨ ∃ z, y = .str z) (hm : X.mg (fl.tn.nm c) = some (.ref C))
    (hq : ∀ s' H', Inv X pins σ H' s' → (∃ W', Le W W' ∧ Rel (gx X fl) W' S H') → R' .notImplemented s') :
    ∃ cl : ClsF X.K X.mg fl.tn c C, ∃ f, Meth X.K C "__eq__" f ∧ wpAny (model X.prog X.w) A (call (.ref f) [.ref A1, u]) R' X.xe s := by
  have hkn : T.kn c = true := hT.nik c hni
  obtain ⟨C', cl⟩ := hT.cls c hkn
  rw [htn] at cl
  have := cl.uniq hm
  subst this
  obtain ⟨f, fd, M, N, hb⟩ := hT.ni c hni C (by rw [htn]; exact cl)
  rw [htn] at N
  unfold NiOk at N
  rw [← gx_none hfx] at N
  refine ⟨cl, f, M, ?_⟩
  have b := hb s [.ref A1, u] I.kIn rfl
  rw [List.append_nil] at b
  have e0 : Env0 X.prog X.w X.K X.mg X.base A X.stack s H := by
    have e := I.env0
    exact ⟨by rw [hfr]; exact e.frames, e.mod, e.bs, e.bsz, e.funs, e.frf, e.hok, e.bare⟩
  refine wpAny_call (codeAny_mono (N A X.stack s H ⟨[.ref A1, u], []⟩ [.ref A1, u] [] W S xs y [.ref A1, yv] (fun H' => ∃ W', Le W W' ∧ Rel (gx X fl) W' S H') hr e0 b (.cons rfl (.cons ry .nil)) R (.cons ra (.cons rb .nil)) hy fun W' H' l R => ⟨W', l, R⟩) fun r s' hq' => ?_)
  obtain ⟨rfl, ce⟩ := hq'
  obtain ⟨z, H', I', rz, q⟩ := I.after ce
  exact hq s' H' I' q
theorem bin_cmp {op : CmpOp} (hT : T.Ok X.prog X.w X.K X.mg X.base L) (htn : T.tn = fl.tn) (C0 : Cxt fl X Wx k) (hL : L + 1 ≤ k) : Bin2 fl X Wx (compareOp op) (cmpD T op) := by
  intro pins s σ H x y v u W a b S Q I rx ry R ra rb q
  have hr : Room L X.A := C0.hr.mono (by omega)
  have hr1 : Room L X.A.in1 := (C0.hr.mono hL).in1
  have hu : X.A.units < cLine := hr.units0
  have hu1 : X.A.units + 1 < cLine := hu_of hr
  obtain ⟨mfr, hF⟩ := I.fr
  -- an own instance on the left
  have left : ∀ {c : Nat} {xs : List D} {A1 C dx : Addr} {od : Obj} {b : D} {y : V} {u : Value} {tb : Value}, op ≠ .NotEq → cop op ≠ 39 → RepV (gx X fl) W (.ins c xs) (.ref A1) → PySem.W.InstAt s.heap A1 (PySem.W.instObj C dx) C (some od) → X.mg (fl.tn.nm c) = some (.ref C) → RelV y u → RepV (gx X fl) W b y →
      PySem.W.Looks (model X.prog X.w) s.heap (typeOf u) tb → (tb = .ref C ∨ tb = .type "int") → Ev (RepV (gx X fl)) (gx X fl) W (dund T c (cop op) [.ins c xs, b] S) Q (fun c d H => Wx c d σ H) → wpAny (model X.prog X.w) X.A (compareOp op (.ref A1) u) (EP X pins σ Q) X.xe s := by
    intro c xs A1 C dx od b y u tb hne ho ra J hm ry rb hb htb q
    obtain ⟨e1, e2⟩ := cop_nm hT.dn ho
    obtain ⟨cl, f, M, run⟩ := run_dund (vs := [.ref A1, y]) (us := [.ref A1, u]) hT htn C0.fx hr rfl C0.tk I R hm (.cons rfl (.cons ry .nil)) (.cons ra (.cons rb .nil)) q
    rw [← htn, e1] at M
    rw [cmpOp_rich ho]
    refine PySem.W.cmp_K (tb := tb) hu hF I.ok.mod.kin J hb ?_ M.at_ M.fn (wpAny_mono run (fun v s' hv => ep_cmpback hv) fun _ _ e => e)
    rcases htb with rfl | rfl
    · simp [PySem.W.notFirst]
    · simp [PySem.W.notFirst, subInt]
  have leftNe : ∀ {c : Nat} {xs : List D} {A1 C dx : Addr} {od : Obj} {b : D} {y : V} {u : Value} {tb : Value}, T.one c = true → RepV (gx X fl) W (.ins c xs) (.ref A1) → PySem.W.InstAt s.heap A1 (PySem.W.instObj C dx) C (some od) → X.mg (fl.tn.nm c) = some (.ref C) → RelV y u → RepV (gx X fl) W b y →
      PySem.W.Looks (model X.prog X.w) s.heap (typeOf u) tb → (tb = .ref C ∨ tb = .type "int") → Ev (RepV (gx X fl)) (gx X fl) W (notR (dund T c 13 [.ins c xs, b] S)) Q (fun c d H => Wx c d σ H) → wpAny (model X.prog X.w) X.A (compareOp .NotEq (.ref A1) u) (EP X pins σ Q) X.xe s := by
    intro c xs A1 C dx od b y u tb h1 ra J hm ry rb hb htb q
    obtain ⟨e1, e2⟩ := cop_nm (T := T) hT.dn (op := .Eq) (by decide)
    obtain ⟨cl, f, M, run⟩ := run_dund (vs := [.ref A1, y]) (us := [.ref A1, u]) hT htn C0.fx hr1 rfl C0.tk I R hm (.cons rfl (.cons ry .nil)) (.cons ra (.cons rb .nil)) (Ev.seq q)
    rw [← htn, show (13 : Nat) = cop .Eq from rfl, e1] at M
    show wpAny (model X.prog X.w) X.A (richCompare .NotEq (.ref A1) u) (EP X pins σ Q) X.xe s
    refine ne_left (tb := tb) hu1 hF I.ok.mod.kin J hb ?_ (hT.one c h1 C (by rw [htn]; exact cl)) cl.obj M.at_ M.fn (wpAny_mono run (fun v s' hv => ep_notb hv) fun _ _ e => e)
    rcases htb with rfl | rfl
    · simp [PySem.W.notFirst]
    · simp [PySem.W.notFirst, subInt]
  have li : ∀ {j : Int} {t : Tok}, PySem.W.Looks (model X.prog X.w) s.heap (typeOf (.int j t)) (.type "int") := fun {j t} A' Q' E' s' _ q' => wpAny_typeOf (typeIs_int s' j t) q'
  unfold cmpD at q
  split at q
  · rename_i i j
    cases ra; cases rb
    split at q
    · rename_i n hn
      exact int_cmp_run I rx ry hn (q W _ H (.refl W) R (.bl n))
    · exact q.elim
  · rename_i c xs c' ys
    split at q
    · rename_i hc
      subst hc
      obtain ⟨A1, C, dx, fvs, od, rfl, rfl, hm, hH, _, _, J⟩ := inst_of I R ra rx
      obtain ⟨A2, C2, dx2, fvs2, od2, rfl, rfl, hm2, hH2, _, _, J2⟩ := inst_of I R rb ry
      rw [hm] at hm2
      cases hm2
      split at q
      · split at q
        · rename_i h1
          exact leftNe h1 ra J hm (show RelV (.ref A2) (.ref A2) from rfl) rb J2.type (.inl rfl) q
        · exact q.elim
      · rename_i hne
        split at q
        · rename_i ho
          exact left (fun e => hne e) ho ra J hm (show RelV (.ref A2) (.ref A2) from rfl) rb J2.type (.inl rfl) q
        · exact q.elim
    · exact q.elim
  · rename_i c xs j
    obtain ⟨A1, C, dx, fvs, od, rfl, rfl, hm, hH, _, _, J⟩ := inst_of I R ra rx
    have rb' := rb
    cases rb
    have ry' := ry
    obtain ⟨t, rfl⟩ := ry
    split at q
    · split at q
      · rename_i h1
        exact leftNe h1 ra J hm ry' rb' li (.inr rfl) q
      · exact q.elim
    · rename_i hne
      split at q
      · rename_i ho
        exact left (fun e => hne e) ho ra J hm ry' rb' li (.inr rfl) q
      · exact q.elim
  · rename_i i c ys
    obtain ⟨A1, C, dx, fvs, od, rfl, rfl, hm, hH, _, _, J⟩ := inst_of I R rb ry
    have ra' := ra
    cases ra
    have rx' := rx
    obtain ⟨t, rfl⟩ := rx
    split at q
    · split at q
      · rename_i h1
        obtain ⟨e1, e2⟩ := cop_nm (T := T) hT.dn (op := .Eq) (by decide)
        obtain ⟨cl, f, M, run⟩ := run_dund (vs := [.ref A1, .int i]) (us := [.ref A1, .int i t]) hT htn C0.fx hr1 rfl C0.tk I R hm (.cons rfl (.cons rx' .nil)) (.cons rb (.cons ra' .nil)) (Ev.seq q)
        rw [← htn, show (13 : Nat) = cop .Eq from rfl, e1] at M
        exact ne_right hu1 hF I.ok.mod.kin J inst_prim (hT.one c h1 C (by rw [htn]; exact cl)) cl.obj M.at_ M.fn cl.nint (wpAny_mono run (fun v s' hv => ep_notb hv) fun _ _ e => e)
      · exact q.elim
    · split at q
      · rename_i ho
        obtain ⟨e1, e2⟩ := cop_nm hT.dn ho
        obtain ⟨cl, f, M, run⟩ := run_dund (vs := [.ref A1, .int i]) (us := [.ref A1, .int i t]) hT htn C0.fx hr rfl C0.tk I R hm (.cons rfl (.cons rx' .nil)) (.cons rb (.cons ra' .nil)) q
        rw [← htn, e2] at M
        rw [cmpOp_rich ho]
        exact cmp_right hu hF I.ok.mod.kin J inst_prim M.at_ M.fn cl.nint (fun A' E' s' Q' hb hq => tryCmp_int ho inst_prim A' E' s' Q' hb hq) (wpAny_mono run (fun v s' hv => ep_cmpback hv) fun _ _ e => e)
      · exact q.elim
  · rename_i c xs
    obtain ⟨A1, C, dx, fvs, od, rfl, rfl, hm, hH, _, _, J⟩ := inst_of I R ra rx
    have rb' := rb
    cases rb
    cases ry
    split at q
    · split at q
      · rename_i hni
        obtain ⟨cl, f, M, run⟩ := ni_run (u := .none) (R' := fun v s' => v = .notImplemented ∧ wpAny (model X.prog X.w) X.A (tryCompare .none "__eq__" (.ref A1)) (fun r s2 => r = none ∧ wpAny (model X.prog X.w) X.A (isSame (.ref A1) .none) (fun k s3 => EP X pins σ Q (.bool k) s3) X.xe s2) X.xe s') hT htn C0.fx hni hr rfl I R ra rb' rfl (.inl rfl) hm
          (fun s' H' I' ⟨W', l, R'⟩ => ⟨rfl, none_eq_declines ⟨rfl, wpAny_of_eq (isSame_none _) ⟨.bl false, H', I', rfl, q W' _ H' l R' (.bl false)⟩⟩⟩)
        exact eq_ni (T := "NoneType") hu hF I.ok.mod.kin J (fun _ => rfl) (subTy (by decide +kernel)) M.at_ M.fn run
      · exact q.elim
    · split at q
      · rename_i h2
        obtain ⟨hni, h1⟩ := h2
        obtain ⟨cl, f, M, run⟩ := ni_run (u := .none) (R' := fun v s' => v = .notImplemented ∧ wpAny (model X.prog X.w) X.A (tryCompare .none "__ne__" (.ref A1)) (fun r s2 => r = none ∧ wpAny (model X.prog X.w) X.A (isSame (.ref A1) .none) (fun k s3 => EP X pins σ Q (.bool (!k)) s3) X.xe s2) X.xe s') hT htn C0.fx hni hr1 rfl I R ra rb' rfl (.inl rfl) hm
          (fun s' H' I' ⟨W', l, R'⟩ => ⟨rfl, none_ne_declines ⟨rfl, wpAny_of_eq (isSame_none _) ⟨.bl true, H', I', rfl, q W' _ H' l R' (.bl true)⟩⟩⟩)
        exact ne_ni (T := "NoneType") hu1 hF I.ok.mod.kin J (fun _ => rfl) (subTy (by decide +kernel)) (hT.one c h1 C (by rw [htn]; exact cl)) cl.obj M.at_ M.fn run
      · exact q.elim
    · exact q.elim
  · rename_i c xs z
    obtain ⟨A1, C, dx, fvs, od, rfl, rfl, hm, hH, _, _, J⟩ := inst_of I R ra rx
    have rb' := rb
    cases rb
    have ry' := ry
    obtain ⟨t, rfl⟩ := ry
    have there : ∀ s' H', Inv X pins σ H' s' → (∃ W', Le W W' ∧ Rel (gx X fl) W' S H') → ∃ ox, s'.heap.get? A1 = some ox ∧ ∀ v, ox.data ≠ .prim v := fun s' H' I' ⟨W', l, R'⟩ => by
      obtain ⟨A2, C2, dx2, fvs2, od2, e1, _, _, _, _, _, J2⟩ := inst_of I' R' (ra.mono l) (show RelV (.ref A1) (.ref A1) from rfl)
      cases e1
      exact ⟨_, J2.at_, inst_prim⟩
    split at q
    · split at q
      · rename_i hni
        obtain ⟨cl, f, M, run⟩ := ni_run (u := .str z t) (R' := fun v s' => v = .notImplemented ∧ wpAny (model X.prog X.w) X.A (tryCompare (.str z t) "__eq__" (.ref A1)) (fun r s2 => r = none ∧ wpAny (model X.prog X.w) X.A (isSame (.ref A1) (.str z t)) (fun k s3 => EP X pins σ Q (.bool k) s3) X.xe s2) X.xe s') hT htn C0.fx hni hr rfl I R ra rb' ry' (.inr ⟨z, rfl⟩) hm
          (fun s' H' I' hw => by
            obtain ⟨ox, h1, h2⟩ := there s' H' I' hw
            obtain ⟨W', l, R'⟩ := hw
            exact ⟨rfl, str_eq_declines h1 h2 ⟨rfl, wpAny_of_eq (a := false) rfl ⟨.bl false, H', I', rfl, q W' _ H' l R' (.bl false)⟩⟩⟩)
        exact eq_ni (T := "str") hu hF I.ok.mod.kin J (fun _ => typeIs_str _ _ _) (subTy (by decide +kernel)) M.at_ M.fn run
      · exact q.elim
    · split at q
      · rename_i h2
        obtain ⟨hni, h1⟩ := h2
        obtain ⟨cl, f, M, run⟩ := ni_run (u := .str z t) (R' := fun v s' => v = .notImplemented ∧ wpAny (model X.prog X.w) X.A (tryCompare (.str z t) "__ne__" (.ref A1)) (fun r s2 => r = none ∧ wpAny (model X.prog X.w) X.A (isSame (.ref A1) (.str z t)) (fun k s3 => EP X pins σ Q (.bool (!k)) s3) X.xe s2) X.xe s') hT htn C0.fx hni hr1 rfl I R ra rb' ry' (.inr ⟨z, rfl⟩) hm
          (fun s' H' I' hw => by
            obtain ⟨ox, h1, h2⟩ := there s' H' I' hw
            obtain ⟨W', l, R'⟩ := hw
            exact ⟨rfl, str_ne_declines h1 h2 ⟨rfl, wpAny_of_eq (a := false) rfl ⟨.bl true, H', I', rfl, q W' _ H' l R' (.bl true)⟩⟩⟩)
        exact ne_ni (T := "str") hu1 hF I.ok.mod.kin J (fun _ => typeIs_str _ _ _) (subTy (by decide +kernel)) (hT.one c h1 C (by rw [htn]; exact cl)) cl.obj M.at_ M.fn run
      · exact q.elim
    · exact q.elim
  · rename_i z1 z2
    cases ra; cases rb
    split at q
    · exact op_eq pins s σ H _ _ v u Q I rx ry ⟨rfl, by rw [show decide (V.str z1 = V.str z2) = decide (z1 = z2) by simp]; exact q W _ H (.refl W) R (.bl _)⟩
    · exact op_ne pins s σ H _ _ v u Q I rx ry ⟨rfl, by rw [show decide (V.str z1 = V.str z2) = decide (z1 = z2) by simp]; exact q W _ H (.refl W) R (.bl _)⟩
    · exact op_lt_str pins s σ H _ _ v u Q I rx ry ⟨z1, z2, rfl, rfl, q W _ H (.refl W) R (.bl _)⟩
    · exact q.elim
  · split at q
    · split at q
      · rename_i kk hk
        obtain ⟨h1, h2⟩ := eqS_ok ra rb hk
        exact op_eq pins s σ H _ _ v u Q I rx ry ⟨h1, by rw [h2]; exact q W _ H (.refl W) R (.bl _)⟩
      · exact q.elim
    · split at q
      · rename_i kk hk
        obtain ⟨h1, h2⟩ := eqS_ok ra rb hk
        exact op_ne pins s σ H _ _ v u Q I rx ry ⟨h1, by rw [h2]; exact q W _ H (.refl W) R (.bl _)⟩
      · exact q.elim
    · exact q.elim
end
end Bp


set_option Elab.async false
set_option linter.all false
set_option maxRecDepth 100000
set_option maxHeartbeats 4000000
/-! Bp7: fields, methods, instances made. -/
namespace Bp
open PySem L2 PyProof.Rows
section
variable {fl : Pm} {X : Cx} {Wx : WX} {T : CT} {L k : Nat} {P : Program} {w : World} {K : PySem.W.Frag} {mg : Str → Option Value} {base : Heap}
theorem CT.Ok.injN (h : T.Ok P w K mg base L) {a b : Nat} (ha : a < T.N) (hb : b < T.N) (e : T.tn.nm a = T.tn.nm b) : a = b := by
  have h1 : ((List.range T.N).map T.tn.nm)[a]? = some (T.tn.nm a) := by rw [List.getElem?_map, List.getElem?_range ha]; rfl
  have h2 : ((List.range T.N).map T.tn.nm)[b]? = some (T.tn.nm b) := by rw [List.getElem?_map, List.getElem?_range hb]; rfl
  exact nodup_ix h.inj (by rw [h1, e]) h2
theorem lookup_at {κ : Type} [BEq κ] [LawfulBEq κ] {β : Type} : ∀ {l : List (κ × β)} {i : Nat} {x : κ} {v : β}, (l.map (·.1)).Nodup → (l.map (·.1))[i]? = some x → (l.map (·.2))[i]? = some v → l.lookup x = some v
  | [], i, x, v, _, h, _ => by simp at h
  | (y, u) :: l, 0, x, v, _, h, h2 => by
    simp at h h2
    subst h h2
    simp [List.lookup]
  | (y, u) :: l, i + 1, x, v, hn, h, h2 => by
    have hn' : y ∉ l.map (·.1) ∧ (l.map (·.1)).Nodup := by simpa using hn
    have h' : (l.map (·.1))[i]? = some x := by simpa using h
    have h2' : (l.map (·.2))[i]? = some v := by simpa using h2
    have ne : (x == y) = false := by
      rw [beq_eq_false_iff_ne]
      intro e
      exact hn'.1 (e ▸ List.mem_iff_getElem?.mpr ⟨i, h'⟩)
    simp only [List.lookup, ne]
    exact lookup_at hn'.2 h' h2'
def fix (T : CT) (c f : Nat) : Nat := (T.tn.fl c).idxOf f
def attrD (T : CT) (f : Nat) (d : D) (S : Store) : Res D := match d with
  | .ins c xs => if T.no c f = true ∧ T.kn c = true then (match (T.tn.fl c).idxOf? f with
      | some i => (match xs[i]? with
        | some v => .ok v S
        | none => .bad)
      | none => .bad)
    else (match T.prop c f with
      | some g => (match g [.ins c xs] S with
        | .ok v S' => .ok v S'
        | _ => .bad)
      | none => .bad)
  | .ref n => (match S[n]? with
    | some (.obj c fs) => if T.no c f = true ∧ T.kn c = true ∧ f < T.N ∧ fs.all (fun p => decide (p.1 < T.N)) = true ∧ (fs.map (·.1)).Nodup then (match (fs.map (·.1)).idxOf? f with
      | some i => (match (fs.map (·.2))[i]? with
        | some v => .ok v S
        | none => .bad)
      | none => .bad)
    else (match T.prop c f with
      | some g => (match g [.ref n] S with
        | .ok v S' => .ok v S'
        | _ => .bad)
      | none => .bad)
    | _ => .bad)
  | _ => .bad
theorem idxOf_at {l : List Nat} {f i : Nat} (h : l.idxOf? f = some i) : l[i]? = some f := by
  have h' : l.findIdx? (· == f) = some i := h
  rw [List.findIdx?_eq_some_iff_getElem] at h'
  obtain ⟨hi, h1, _⟩ := h'
  rw [List.getElem?_eq_getElem hi]
  exact congrArg some (beq_iff_eq.mp h1)
theorem map_nodup_of {T : CT} (hT : T.Ok P w K mg base L) : ∀ {l : List Nat}, (∀ a ∈ l, a < T.N) → l.Nodup → (l.map T.tn.nm).Nodup
  | [], _, _ => List.nodup_nil
  | a :: l, h, hn => by
    obtain ⟨h1, h2⟩ := List.nodup_cons.mp hn
    refine List.nodup_cons.mpr ⟨fun hm => ?_, map_nodup_of hT (fun b hb => h b (List.mem_cons_of_mem _ hb)) h2⟩
    obtain ⟨b, hb, e⟩ := List.mem_map.mp hm
    have := hT.injN (h b (List.mem_cons_of_mem _ hb)) (h a List.mem_cons_self) e
    exact h1 (this ▸ hb)
theorem un_attr {f : Nat} {b : Bool} (hT : T.Ok X.prog X.w X.K X.mg X.base L) (htn : T.tn = fl.tn) (C0 : Cxt fl X Wx k) (hL : L + 1 ≤ k) : Un1 fl X Wx (fun o => getAttr o (fl.tn.nm f) b) (attrD T f) := by
  intro pins s σ H x v W a S Q I rx R ra q
  unfold attrD at q
  split at q
  · rename_i c xs
    obtain ⟨A1, C, dx, fvs, od, rfl, rfl, hm, hH, hk, rl, J⟩ := inst_of I R ra rx
    split at q
    · rename_i hc
      obtain ⟨hno, hkn⟩ := hc
      obtain ⟨C', cl⟩ := hT.cls c hkn
      rw [htn] at cl
      have := cl.uniq hm
      subst this
      split at q
      · rename_i i hi
        split at q
        · rename_i d hd
          obtain ⟨v, hv, rv⟩ := rl.get hd
          have hf : (T.tn.fl c)[i]? = some f := idxOf_at hi
          rw [htn] at hf
          have lk : fvs.lookup (fl.tn.nm f) = some v := lookup_at (by rw [hk]; exact cl.fnd) (by rw [hk, List.getElem?_map, hf]; rfl) hv
          have na := hT.no c f hno C (by rw [htn]; exact cl)
          rw [htn] at na
          exact getattr_ok I hH cl.cls na lk fun u' s2 I2 ru => ⟨v, H, I2, ru, q W v H (.refl W) R rv⟩
        · exact q.elim
      · exact q.elim
    · split at q
      · rename_i g hg
        obtain ⟨hkn, hp⟩ := hT.prop c f g hg
        obtain ⟨C', cl⟩ := hT.cls c hkn
        have cl' := cl
        rw [htn] at cl'
        have := cl'.uniq hm
        subst this
        obtain ⟨p, ga, fd, ps, hpo, hpl, F, hb⟩ := hp C cl
        rw [htn] at hpo F
        rw [← C0.gx] at F
        split at q
        · rename_i d S' hg'
          refine getprop_ok (CX := L2.CX X.prog X.w) (E := E0) I hH cl'.cls hpo F (C0.hr.mono hL) hb .nil passL ?_
          refine ⟨rfl, W, [.ins c xs], S, R, .cons ra .nil, ?_⟩
          rw [hg']
          exact q
        · exact q.elim
      · exact q.elim
  · rename_i n
    cases ra with
    | ref _ A1 hA =>
      cases rx
      split at q
      · rename_i c fs hS
        obtain ⟨ho, hH, ro⟩ := R.obj n A1 _ hA hS
        cases ro with
        | obj _ _ C dx fvs hm rf =>
          split at q
          · rename_i hc
            obtain ⟨hno, hkn, hfN, hall, hnd⟩ := hc
            obtain ⟨C', cl⟩ := hT.cls c hkn
            rw [htn] at cl
            have := cl.uniq hm
            subst this
            split at q
            · rename_i i hi
              split at q
              · rename_i d hd
                obtain ⟨v, hv, rv⟩ := rf.2.get hd
                have hf : (fs.map (·.1))[i]? = some f := idxOf_at hi
                have hnd2 : ((fs.map (·.1)).map T.tn.nm).Nodup := map_nodup_of hT (fun a ha => by
                  obtain ⟨p, hp, rfl⟩ := List.mem_map.mp ha
                  exact of_decide_eq_true (List.all_eq_true.mp hall p hp)) hnd
                have hkeys : fvs.map (·.1) = (fs.map (·.1)).map fl.tn.nm := by rw [rf.1, List.map_map]; rfl
                have lk : fvs.lookup (fl.tn.nm f) = some v := lookup_at (by rw [hkeys, ← htn]; exact hnd2) (by rw [hkeys, List.getElem?_map, hf]; rfl) hv
                have na := hT.no c f hno C (by rw [htn]; exact cl)
                rw [htn] at na
                exact getattr_ok I hH cl.cls na lk fun u' s2 I2 ru => ⟨v, H, I2, ru, q W v H (.refl W) R rv⟩
              · exact q.elim
            · exact q.elim
          · split at q
            · rename_i g hg
              obtain ⟨hkn, hp⟩ := hT.prop c f g hg
              obtain ⟨C', cl⟩ := hT.cls c hkn
              have cl' := cl
              rw [htn] at cl'
              have := cl'.uniq hm
              subst this
              obtain ⟨p, ga, fd, ps, hpo, hpl, F, hb⟩ := hp C cl
              rw [htn] at hpo F
              rw [← C0.gx] at F
              split at q
              · rename_i d S' hg'
                refine getprop_ok (CX := L2.CX X.prog X.w) (E := E0) I hH cl'.cls hpo F (C0.hr.mono hL) hb .nil passL ?_
                refine ⟨rfl, W, [.ref n], S, R, .cons (.ref n A1 hA) .nil, ?_⟩
                rw [hg']
                exact q
              · exact q.elim
            · exact q.elim
      · exact q.elim
  · exact q.elim
def mAttr (T : CT) (f : Nat) (m : ME) : ME := mUn (attrD T f) m
theorem ex_attr {e : Expr} {me : ME} {x : Str} {pos : Pos} (f : Nat) (hf : fl.tn.nm f = x) (hT : T.Ok X.prog X.w X.K X.mg X.base L) (htn : T.tn = fl.tn) (C0 : Cxt fl X Wx k) (hL : L + 1 ≤ k) (he : EX fl X Wx e me) (hb : attributeBase e x X.env (eval e X.env) = eval e X.env := by rfl) : EX fl X Wx (.Attribute e x pos) (mAttr T f me) := by
  subst hf
  refine ⟨fun pins s σ H Q I ⟨W, env, S, R, RE, q⟩ => ?_⟩
  refine attr_of hb (thn (he.run I R RE (Ev.seq q)) fun v s1 ⟨x, H1, I1, r1, W1, d1, S1, l1, R1, ra, q1⟩ => ?_)
  exact un_attr (b := true) hT htn C0 hL pins s1 σ H1 x v W1 d1 S1 Q I1 r1 R1 ra q1
/-! ### a field stored -/
def putD (f : Nat) (v : D) : List (Nat × D) → List (Nat × D)
  | [] => [(f, v)]
  | (g, x) :: r => if g = f then (g, v) :: r else (g, x) :: putD f v r
theorem putD_rep {G : Gs} {W : Wd} {f : Nat} {d : D} {v : V} (rv : RepV G W d v) : ∀ {fs : List (Nat × D)} {fvs : List (Str × V)}, RepF G W fs fvs → (∀ p ∈ fs, G.tn.nm p.1 = G.tn.nm f → p.1 = f) → RepF G W (putD f d fs) (putF (G.tn.nm f) v fvs)
  | [], fvs, h, _ => by
    have : fvs = [] := by simpa using h.1
    subst this
    exact ⟨rfl, .cons rv .nil⟩
  | (g, x) :: fs, [], h, _ => by simpa using h.1
  | (g, x) :: fs, (y, u) :: fvs, h, hi => by
    have h1 : y = G.tn.nm g ∧ fvs.map (·.1) = fs.map (fun p => G.tn.nm p.1) := by simpa using h.1
    obtain ⟨rfl, h1⟩ := h1
    have h2 := h.2
    cases h2 with
    | cons r1 rr =>
      show RepF G W (if g = f then (g, d) :: fs else (g, x) :: putD f d fs) (if G.tn.nm g = G.tn.nm f then (G.tn.nm g, v) :: fvs else (G.tn.nm g, u) :: putF (G.tn.nm f) v fvs)
      by_cases hg : g = f
      · rw [if_pos hg, if_pos (by rw [hg])]
        exact ⟨by simp [h1], .cons rv rr⟩
      · rw [if_neg hg, if_neg (fun e => hg (hi _ List.mem_cons_self e))]
        have ih := putD_rep rv (fs := fs) (fvs := fvs) ⟨h1, rr⟩ fun p hp => hi p (List.mem_cons_of_mem _ hp)
        exact ⟨by simp [ih.1], .cons r1 ih.2⟩
def setD (T : CT) (f : Nat) (o v : D) (env : Env) (S : Store) : RS := match o with
  | .ref n => (match S[n]? with
    | some (.obj c fs) => if T.no c f = true ∧ T.kn c = true ∧ f < T.N ∧ fs.all (fun p => decide (p.1 < T.N)) = true ∧ fs.length < 900 then .nx env (S.set n (.obj c (putD f v fs))) else .bad
    | _ => .bad)
  | _ => .bad
def mSetA (T : CT) (f : Nat) (mo mv : ME) : MS := fun env S => onR (mv env S) env fun v S1 => onR (mo env S1) env fun o S2 => setD T f o v env S2
theorem es_seta {o value : Expr} {mo mv : ME} {x : Str} {pos pos' : Pos} (f : Nat) (hf : fl.tn.nm f = x) (hT : T.Ok X.prog X.w X.K X.mg X.base L) (htn : T.tn = fl.tn) (ha : EX fl X Wx o mo) (hv : EX fl X Wx value mv) (hs : swapsWith value (some (.Attribute o x pos')) pos.line X.env = pure false := by rfl) :
    ES fl X Wx (.Assign [.Attribute o x pos'] value pos) (mSetA T f mo mv) := by
  subst hf
  refine PS.imp (ps_fld ha hv hs) fun D σ H ⟨W, env, S, R, RE, q⟩ => ⟨W, env, S, R, RE, Ev.imp (EvS.on RE q) fun y H1 ⟨W1, d, S1, l1, R1, rd, q1⟩ => ?_⟩
  refine ⟨W1, env, S1, R1, RE.mono l1, Ev.imp (EvS.on (RE.mono l1) q1) fun z H2 ⟨W2, od, S2, l2, R2, ro, q2⟩ => ?_⟩
  unfold setD at q2
  split at q2
  · rename_i n
    cases ro with
    | ref _ A1 hA =>
      split at q2
      · rename_i c fs hS
        obtain ⟨ho, hH, ro⟩ := R2.obj n A1 _ hA hS
        cases ro with
        | obj _ _ C dx fvs hm rf =>
          split at q2
          · rename_i hc
            obtain ⟨hno, hkn, hfN, hall, hlen⟩ := hc
            obtain ⟨C', cl⟩ := hT.cls c hkn
            rw [htn] at cl
            have := cl.uniq hm
            subst this
            have na := hT.no c f hno C (by rw [htn]; exact cl)
            rw [htn] at na
            have hll : fvs.length = fs.length := by
              have := congrArg List.length rf.1
              simpa using this
            refine ⟨A1, C, dx, fvs, rfl, hH, cl.cls, na, by omega, ?_⟩
            have rf' := putD_rep (f := f) (rd.mono l2) rf fun p hp e => by
              have e' : T.tn.nm p.1 = T.tn.nm f := by rw [htn]; exact e
              exact hT.injN (of_decide_eq_true (List.all_eq_true.mp hall p hp)) hfN e'
            exact q2 W2 σ _ (.refl W2) (R2.put hA hS (by intro h; cases h) (o := .obj c (putD f d fs)) (.obj c _ C dx _ hm rf')) (RE.mono (l1.trans l2))
          · exact q2.elim
      · exact q2.elim
  · exact q2.elim
end
end Bp


set_option Elab.async false
set_option linter.all false
set_option maxRecDepth 100000
set_option maxHeartbeats 4000000
/-! Bp8: instances made, own methods, built-ins called. -/
namespace Bp
open PySem L2 PyProof.Rows
open Classical in
noncomputable def newFin (T : CT) (c : Nat) (S : Store) (r : Res D) : Res D := match r with
  | .ok .non S' => (match S'[S.length]? with
    | some (.obj c' fs) => if c' = c ∧ pfx S S' ∧ fs.map (·.1) = T.tn.fl c then (match optL (frz S' S.length S.length 9) (fs.map (·.2)) with
      | some vs => .ok (.ins c vs) (S'.take S.length)
      | none => .bad) else .bad
    | _ => .bad)
  | .exc e S' => if pfx S S' then (match optL (frz S' S.length S.length 9) e.vs with
    | some vs => .exc ⟨e.c, e.ks, vs⟩ (S'.take S.length)
    | none => .bad) else .bad
  | _ => .bad
noncomputable def newD (T : CT) (c : Nat) : Fn := fun args S => match T.mkr c with
  | none => .bad
  | some (n, dfl, g) => if args.length + 1 ≤ n ∧ n ≤ args.length + 1 + dfl.length then newFin T c S (g (.ref S.length :: (args ++ dfl.drop (args.length + 1 + dfl.length - n))) (S ++ [.obj c []])) else .bad
section
variable {fl : Pm} {X : Cx} {Wx : WX} {T : CT} {L k : Nat}
theorem newFin_ok {G : Gs} {W : Wd} {S : Store} {H : Hp} {c : Nat} {r : Res D} {x C : Addr} {Q : VK} {E : XK} (htn : T.tn = G.tn) (R : Rel G W S H) (hx : H x = none) (cm : G.mg (G.tn.nm c) = some (.ref C)) {W2 : Wd} (l : Le W W2) (e2 : W2.μ = W.μ ++ [x])
    (q : Ev (RepV G) G W (newFin T c S r) Q E) : Ev (RepV G) G W2 r (fun v H2 => v = .non ∧ Q (.ref x) H2) E := by
  have e0 : W.μ ++ [] = W.μ := List.append_nil _
  cases r with
  | bad => exact q.elim
  | exc e S' =>
    unfold newFin at q
    dsimp only at q
    split at q
    · rename_i hp
      split at q
      · rename_i vs hv
        intro W' cls d H' l' R' rx
        have ll := l.trans l'
        have hk := fz_hk R ll (E := [])
        have hl := fz_le R' ll (E := [])
        rw [e0] at hl
        simp only [e0] at hk
        refine q (W'.fz W.μ H') cls d H' hl (R.fz R' ll hp) ⟨rx.c, rx.h0, ?_⟩
        obtain ⟨dd, fvs, h1, h2, h3⟩ := rx.f
        exact ⟨dd, fvs, fun z => ⟨(h1 z).1, fz_F R' (h1 z).2⟩, h2, optL_ok (fun d d' v => frz_ok R' hk (fun n a g1 _ g2 => fz_hn R R' ll n a g1 g2) 9 d d' v) hv h3⟩
      · exact q.elim
    · exact q.elim
  | ok d S' =>
    unfold newFin at q
    split at q
    · rename_i S0 heq
      cases heq
      split at q
      · rename_i c' fs hS
        split at q
        · rename_i hc
          obtain ⟨rfl, hp, h2⟩ := hc
          split at q
          · rename_i ds hds
            intro W' v H' l' R' rv
            cases rv
            refine ⟨rfl, ?_⟩
            have ll := l.trans l'
            have hxm : W'.μ[S.length]? = some x := by
              refine l'.at ?_
              rw [e2, ← R.len]
              simp
            obtain ⟨ho, g1, g2⟩ := R'.obj _ x _ hxm hS
            have hk := fz_hk R ll (E := [])
            have hl := fz_le R' ll (E := [])
            rw [e0] at hl
            simp only [e0] at hk
            have hnx : x ∉ W.μ := R.notμ hx
            cases g2 with
            | obj _ _ C2 dx2 fvs hc2 rf =>
              refine q _ (.ref x) H' hl (R.fz R' ll hp) (.ins _ _ x C2 dx2 fvs hc2 ((fz_new (List.mem_iff_getElem?.mpr ⟨_, hxm⟩) hnx).trans g1) ?_ ?_)
              · rw [rf.1, ← htn, ← h2, List.map_map]; rfl
              · exact optL_ok (fun d d' v => frz_ok R' hk (fun n a g1 _ g2 => fz_hn R R' ll n a g1 g2) 9 d d' v) hds rf.2
          · exact q.elim
        · exact q.elim
      · exact q.elim
    · rename_i heq
      cases heq
    · exact q.elim
theorem run_newD {c : Nat} {ds : List D} {vs : List V} {us : List Value} {pins : List (Addr × Obj)} {σ : L2.St} {H : Hp} {s : Shared} {Q : VK} {W : Wd} {S : Store} {C : Addr} (hT : T.Ok X.prog X.w X.K X.mg X.base L) (htn : T.tn = fl.tn) (C0 : Cxt fl X Wx k) (hL : L + 1 ≤ k)
    (I : Inv X pins σ H s) (R : Rel (gx X fl) W S H) (cm : X.mg (fl.tn.nm c) = some (.ref C)) (r : Vals vs us) (rl : RepL (gx X fl) W ds vs) (q : Ev (RepV (gx X fl)) (gx X fl) W (newD T c ds S) Q (fun c d H => Wx c d σ H)) :
    wpAny (model X.prog X.w) X.A (call (.ref C) us) (EP X pins σ Q) X.xe s := by
  unfold newD at q
  split at q
  · exact q.elim
  · rename_i n dfl g hm
    split at q
    · rename_i hn
      obtain ⟨hkn, hmk⟩ := hT.mkr c n dfl g hm
      obtain ⟨C', cl⟩ := hT.cls c hkn
      have cl' := cl
      rw [htn] at cl'
      have := cl'.uniq cm
      subst this
      obtain ⟨f, fd, ps, dvs, M, hps, F, rdl, hb⟩ := hmk C cl
      rw [htn] at F rdl
      rw [← C0.gx] at F rdl
      obtain ⟨dus, rdv, hb⟩ := hb (ds.length + 1 + dfl.length - n) (by omega)
      have fx : H (s.heap.objs.size + 1) = none := I.hok.fresh (Nat.le_succ _)
      have fdx : H s.heap.objs.size = none := I.hok.fresh (Nat.le_refl _)
      have I2 := Inv.made (C := C) I
      obtain ⟨l1, R1⟩ := R.fix fdx (.own (s.heap.objs.size + 1))
      have fx1 : upd H s.heap.objs.size (.own (s.heap.objs.size + 1)) (s.heap.objs.size + 1) = none := by rw [upd_ne (Nat.ne_of_gt (Nat.lt_succ_self _))]; exact fx
      obtain ⟨l2, R2⟩ := R1.new fx1 (o := .obj c []) (ho := .ins C s.heap.objs.size []) (.obj c [] C _ [] cm ⟨rfl, .nil⟩)
      have dl : dfl.length = dvs.length := (rdl W).length
      have rds := RepL.cons (RepV.ref (G := gx X fl) (W := ⟨upd W.F s.heap.objs.size (.own (s.heap.objs.size + 1)), W.μ ++ [s.heap.objs.size + 1], W.xs⟩) S.length (s.heap.objs.size + 1) (by show (W.μ ++ [s.heap.objs.size + 1])[S.length]? = some _; rw [← R.len]; simp)) ((rl.mono (l1.trans l2)).append ((rdl _).drop (ds.length + 1 + dfl.length - n)))
      have rvals : Vals (V.ref (s.heap.objs.size + 1) :: (vs ++ dvs.drop (ds.length + 1 + dfl.length - n))) (Value.ref (s.heap.objs.size + 1) :: (us ++ dus)) := .cons rfl (r.append rdv)
      have hlen : (V.ref (s.heap.objs.size + 1) :: (vs ++ dvs.drop (ds.length + 1 + dfl.length - n))).length = n := by
        have := rl.length
        simp only [List.length_cons, List.length_append, List.length_drop]
        omega
      have hlu : ((Value.ref (s.heap.objs.size + 1) :: us) ++ dus).length = ps.length := by
        rw [hps]
        exact rvals.length.symm.trans hlen
      refine wpAny_call (make_map (f := f) I.kIn M.makes M.init (beq_iff_eq.mp M.fn) (codeAny_mono (F.run _ X.stack _ _ ⟨Value.ref (s.heap.objs.size + 1) :: us, []⟩ (Value.ref (s.heap.objs.size + 1) :: (us ++ dus)) _ (fun v H2 => v = .non ∧ Q (.ref (s.heap.objs.size + 1)) H2) (fun c d H => Wx c d σ H) ((C0.hr.mono hL).make C us [])
        (I2.env0.make C us []) (hb _ (Value.ref (s.heap.objs.size + 1) :: us) I2.kIn hlu) rvals ⟨hlen, _, _, _, R2, rds, newFin_ok (G := gx X fl) htn R fx cm (l1.trans l2) rfl q⟩) fun r s' hq' => ?_))
      cases r with
      | error e => exact passAt C0.tk σ pins _ _ e s' I2 hq'
      | ok fl =>
        cases fl with
        | ret u =>
          obtain ⟨v, H', I3, rv, ev, q3⟩ := I2.after hq'
          subst ev
          exact ⟨rv, ⟨V.ref (s.heap.objs.size + 1), H', I3, rfl, q3⟩⟩
        | next => exact False.elim hq'
        | brk => exact False.elim hq'
        | cont => exact False.elim hq'
    · exact q.elim
noncomputable def mNew (T : CT) (c : Nat) (ms : List ME) : ME := mCall (newD T c) ms
variable {e : Expr} {es : List Expr} {me : ME} {ms : List ME} {pos p : Pos} {x : Str}
theorem ex_new (c : Nat) (hc : fl.tn.nm c = x) (hT : T.Ok X.prog X.w X.K X.mg X.base L) (htn : T.tn = fl.tn) (C0 : Cxt fl X Wx k) (hL : L + 1 ≤ k) (hm : (T.mkr c).isSome = true) (hg : Gl X x) (ha : EA fl X Wx (e :: es) (me :: ms)) (hdb : (x == ("__debug__" : Str)) = false := by decide)
    (he : starEach (e :: es) X.env = (false, eval e X.env) :: starEach es X.env := by rfl) (hpl : (backTo pos (starEach es X.env)).any (·.1) = false := by rfl) : EX fl X Wx (.Call (.Name x p) (e :: es) [] pos) (mNew T c (me :: ms)) := by
  subst hc
  obtain ⟨⟨n, dfl, g⟩, hm'⟩ := Option.isSome_iff_exists.mp hm
  obtain ⟨hkn, hmk⟩ := hT.mkr c n dfl g hm'
  obtain ⟨C, cl⟩ := hT.cls c hkn
  obtain ⟨f, fd, ps, dvs, M, _⟩ := hmk C cl
  rw [htn] at cl
  refine ⟨fun pins s σ H Q I ⟨W, env, S, R, RE, q⟩ => ?_⟩
  refine wpAny_Call_Name_kw (ld_glob I hg cl.mg ?_ hdb)
  refine PySem.W.callWith_K (h₀ := X.base) I.ok.mod.kin M.kp (thn (ha.run pos I R RE (Ev.seq q)) fun us s1 ⟨vs, H1, I1, r, W1, ds, S1, l1, R1, rl, q1⟩ => ⟨I1.kIn, ?_⟩) he hpl
  exact run_newD hT htn C0 hL I1 R1 cl.mg r rl q1
/-! ### own methods -/
def hasM (T : CT) (m : Nat) (d : D) (S : Store) : Bool := match d with
  | .ins c _ => T.kn c && (T.meth c m).isSome && decide (m < T.N) && !(T.tn.fl c).contains m
  | .ref n => (match S[n]? with
    | some (.obj c fs) => T.kn c && (T.meth c m).isSome && decide (m < T.N) && fs.all (fun p => decide (p.1 < T.N)) && !(fs.map (·.1)).contains m
    | _ => false)
  | _ => false
def clsOf (d : D) (S : Store) : Nat := match d with
  | .ins c _ => c
  | .ref n => (match S[n]? with
    | some (.obj c _) => c
    | _ => 0)
  | _ => 0
def mMeth (T : CT) (m : Nat) (mo : ME) (ms : List ME) : ME := fun env S => (mo env S).bind fun o S1 => if hasM T m o S1 = true then (mArgs ms env S1).bind fun vs S2 => dund T (clsOf o S1) m (o :: vs) S2 else .bad
variable {o : Expr} {mo : ME} {apos : Pos}
end
end Bp


set_option Elab.async false
set_option linter.all false
set_option maxRecDepth 100000
set_option maxHeartbeats 4000000
/-! Bp9: exceptions raised and caught. -/
namespace Bp
open PySem L2 PyProof.Rows
mutual
def noX : D → Bool
  | .tup xs => noXs xs
  | .ins _ xs => noXs xs
  | .rl xs => noXs xs
  | .xv _ _ _ => false
  | .rk _ vs => noXs vs
  | .sc xs => noXs xs
  | .ref _ => true
  | .non => true
  | .bl _ => true
  | .int _ => true
  | .str _ => true
  | .ty _ => true
  | .glob _ => true
def noXs : List D → Bool
  | [] => true
  | d :: ds => noX d && noXs ds
end
def noXO : O → Bool
  | .lst xs => noXs xs
  | .obj _ fs => noXs (fs.map (·.2))
  | .dic kvs => noXs (kvs.map (·.2))
  | .dead => true
section
variable {K : PySem.W.Frag} {mg : Str → Option Value} {tn : Tn} {W : Wd}
theorem noX_of {d : D} {v : V} (r : RepV ⟨K, mg, tn, none⟩ W d v) : noX d = true := by
  refine RepV.rec (motive_1 := fun d v _ => noX d = true) (motive_2 := fun ds vs _ => noXs ds = true) ?_ ?_ ?_ ?_ ?_ ?_ ?_ ?_ ?_ ?_ ?_ ?_ ?_ ?_ ?_ r
  · rfl
  · exact fun b => rfl
  · exact fun b => rfl
  · exact fun b => rfl
  · exact fun b => rfl
  · exact fun x a h => rfl
  · exact fun xs vs a h _ ih => by simpa [noX] using ih
  · exact fun c xs a C dx fvs hc h hk _ ih => by simpa [noX] using ih
  · exact fun xs vs a h _ ih => by simpa [noX] using ih
  · exact fun n a h => rfl
  · exact fun c ks vs a C dd d fvs h hc h0 h1 hk _ ih => by cases h
  · exact fun ks ds a kws h hk _ ih => by simpa [noX] using ih
  · exact fun xs vs a h _ ih => by simpa [noX] using ih
  · rfl
  · intro d v ds vs _ _ ih1 ih2
    simp [noXs, ih1, ih2]
theorem noXs_of : ∀ {ds : List D} {vs : List V}, RepL ⟨K, mg, tn, none⟩ W ds vs → noXs ds = true
  | _, _, .nil => rfl
  | _, _, .cons h t => by simp [noXs, noX_of h, noXs_of t]
theorem rep_x {x y : Option (Addr × Value × Option Addr)} {d : D} {v : V} (r : RepV ⟨K, mg, tn, x⟩ W d v) : noX d = true → RepV ⟨K, mg, tn, y⟩ W d v := by
  refine RepV.rec (motive_1 := fun d v _ => noX d = true → RepV ⟨K, mg, tn, y⟩ W d v) (motive_2 := fun ds vs _ => noXs ds = true → RepL ⟨K, mg, tn, y⟩ W ds vs) ?_ ?_ ?_ ?_ ?_ ?_ ?_ ?_ ?_ ?_ ?_ ?_ ?_ ?_ ?_ r
  · exact fun _ => .non
  · exact fun b _ => .bl b
  · exact fun b _ => .int b
  · exact fun b _ => .str b
  · exact fun b _ => .ty b
  · exact fun x a h _ => .glob x a h
  · exact fun xs vs a h _ ih hb => .tup xs vs a h (ih (by simpa [noX] using hb))
  · exact fun c xs a C dx fvs hc h hk _ ih hb => .ins c xs a C dx fvs hc h hk (ih (by simpa [noX] using hb))
  · exact fun xs vs a h _ ih hb => .rl xs vs a h (ih (by simpa [noX] using hb))
  · exact fun n a h _ => .ref n a h
  · exact fun c ks vs a C dd d fvs h hc h0 h1 hk _ ih hb => by cases hb
  · exact fun ks ds a kws h hk _ ih hb => .rk ks ds a kws h hk (ih (by simpa [noX] using hb))
  · exact fun xs vs a h _ ih hb => .sc xs vs a h (ih (by simpa [noX] using hb))
  · exact fun _ => .nil
  · intro d v ds vs _ _ ih1 ih2 hb
    have : noX d = true ∧ noXs ds = true := by simpa [noXs] using hb
    exact .cons (ih1 this.1) (ih2 this.2)
theorem repL_x {x y : Option (Addr × Value × Option Addr)} : ∀ {ds : List D} {vs : List V}, RepL ⟨K, mg, tn, x⟩ W ds vs → noXs ds = true → RepL ⟨K, mg, tn, y⟩ W ds vs
  | _, _, .nil, _ => .nil
  | d :: ds, _, .cons h t, hb => by
    have : noX d = true ∧ noXs ds = true := by simpa [noXs] using hb
    exact .cons (rep_x h this.1) (repL_x t this.2)
theorem repO_x {x y : Option (Addr × Value × Option Addr)} {a : Addr} {o : O} {ho : HO} (r : RepO ⟨K, mg, tn, x⟩ W a o ho) (h : noXO o = true) : RepO ⟨K, mg, tn, y⟩ W a o ho := by
  cases r with
  | lst xs vs r => exact .lst xs vs (repL_x r h)
  | obj c fs C dx fvs hc r => exact .obj c fs C dx fvs hc ⟨r.1, repL_x r.2 h⟩
  | dic kvs kws hk r => exact .dic kvs kws hk (repL_x r h)
  | dead ho => exact .dead ho
theorem noXO_of {a : Addr} {o : O} {ho : HO} (r : RepO ⟨K, mg, tn, none⟩ W a o ho) : noXO o = true := by
  cases r with
  | lst xs vs r => exact noXs_of r
  | obj c fs C dx fvs hc r => exact noXs_of r.2
  | dic kvs kws hk r => exact noXs_of r
  | dead ho => rfl
theorem Rel.noX {S : Store} {H : Hp} (R : Rel ⟨K, mg, tn, none⟩ W S H) : ∀ o ∈ S, noXO o = true := fun o ho => by
  obtain ⟨n, hn⟩ := List.mem_iff_getElem?.mp ho
  obtain ⟨a, ha⟩ := R.addr hn
  obtain ⟨u, _, r⟩ := R.obj n a o ha hn
  exact noXO_of r
theorem Rel.x {x y : Option (Addr × Value × Option Addr)} {S : Store} {H : Hp} (R : Rel ⟨K, mg, tn, x⟩ W S H) (h : ∀ o ∈ S, noXO o = true) : Rel ⟨K, mg, tn, y⟩ W S H :=
  ⟨R.fr, R.len, R.nd, R.off, fun n a o e1 e2 => let ⟨ho, h1, h2⟩ := R.obj n a o e1 e2; ⟨ho, h1, repO_x h2 (h o (List.mem_iff_getElem?.mpr ⟨n, e2⟩))⟩⟩
end
def okE (i : Nat) (env env' : Env) : Prop := ∀ j d, env'[j]? = some (some d) → j = i ∨ env[j]? = some (some d) ∨ noX d = true
def okS (S S' : Store) : Prop := S' = S ∨ ∀ o ∈ S', noXO o = true
open Classical in
noncomputable def sufFin (i : Nat) (env : Env) (S : Store) (r : RS) : RS := match r with
  | .nx env' S' => if okE i env env' ∧ okS S S' then .nx (env'.set i none) S' else .bad
  | .rt d S' => if noX d = true ∧ okS S S' then .rt d S' else .bad
  | .bk env' S' => if okE i env env' ∧ okS S S' then .bk (env'.set i none) S' else .bad
  | .ct env' S' => if okE i env env' ∧ okS S S' then .ct (env'.set i none) S' else .bad
  | _ => .bad
noncomputable def mTryAs (T : CT) (i : Nat) (tg : Tg) (mb ms : MS) : MS := fun env S => match mb env S with
  | .exc e env1 S1 => (match T.xm e.c tg with
    | some true => sufFin i env1 S1 (ms (env1.set i (some (.xv e.c e.ks e.vs))) S1)
    | some false => .exc e env1 S1
    | none => .bad)
  | r => r
theorem sufFin_ok {K : PySem.W.Frag} {mg : Str → Option Value} {tn : Tn} {x : Option (Addr × Value × Option Addr)} {i : Nat} {env : Env} {S : Store} {r : RS} {D : Ends} {Wx : WX} {W W1 : Wd} (l : Le W W1) (nS : ∀ o ∈ S, noXO o = true) (nE : ∀ (j : Nat) (d : Bp.D), env[j]? = some (some d) → noX d = true)
    (q : EvS ⟨K, mg, tn, none⟩ none W (sufFin i env S r) D Wx) :
    EvS ⟨K, mg, tn, x⟩ x W1 r { nx := fun σ' H' => D.nx (σ'.set i none) H', rt := D.rt, bk := fun σ' H' => D.bk (σ'.set i none) H', ct := fun σ' H' => D.ct (σ'.set i none) H' } (fun _ _ _ _ => False) := by
  have dS : ∀ {S' : Store}, okS S S' → ∀ o ∈ S', noXO o = true := fun h o ho => by
    rcases h with rfl | h
    · exact nS o ho
    · exact h o ho
  have dE : ∀ {W2 : Wd} {env' : Env} {σ' : L2.St}, okE i env env' → RepE ⟨K, mg, tn, x⟩ x W2 env' σ' → RepE ⟨K, mg, tn, none⟩ none W2 (env'.set i none) (σ'.set i none) := fun {W2 env' σ'} ho RE => by
    have RE' := RE.unset i none
    refine ⟨fun _ e => (nomatch e), RE'.len, fun j d h => ?_⟩
    obtain ⟨v, h1, h2⟩ := RE'.at_ j d h
    refine ⟨v, h1, rep_x h2 ?_⟩
    by_cases hj : j = i
    · subst hj
      have hlt : j < (env'.set j none).length := (List.getElem?_eq_some_iff.mp h).1
      rw [List.length_set] at hlt
      rw [List.getElem?_set_self hlt] at h
      cases h
    · rw [List.getElem?_set_ne (Ne.symm hj)] at h
      rcases ho j d h with z | z | z
      · exact absurd z hj
      · exact nE j d z
      · exact z
  unfold sufFin at q
  cases r with
  | nx env' S' =>
    dsimp only at q
    split at q
    · rename_i hc
      exact fun W2 σ' H' l2 R2 RE2 => q W2 _ H' (l.trans l2) (R2.x (dS hc.2)) (dE hc.1 RE2)
    · exact q.elim
  | rt d S' =>
    dsimp only at q
    split at q
    · rename_i hc
      exact fun W2 v H' l2 R2 rv => q W2 v H' (l.trans l2) (R2.x (dS hc.2)) (rep_x rv hc.1)
    · exact q.elim
  | bk env' S' =>
    dsimp only at q
    split at q
    · rename_i hc
      exact fun W2 σ' H' l2 R2 RE2 => q W2 _ H' (l.trans l2) (R2.x (dS hc.2)) (dE hc.1 RE2)
    · exact q.elim
  | ct env' S' =>
    dsimp only at q
    split at q
    · rename_i hc
      exact fun W2 σ' H' l2 R2 RE2 => q W2 _ H' (l.trans l2) (R2.x (dS hc.2)) (dE hc.1 RE2)
    · exact q.elim
  | exc _ _ _ => exact q.elim
  | bad => exact q.elim
def mRaise0 (T : CT) (c : Nat) : MS := fun env S => if T.exo c = true then .exc ⟨c, [], []⟩ env S else .bad
section
variable {fl : Pm} {X : Cx} {Wx : WX} {T : CT} {L k : Nat} {x : Str} {p pos pos' np : Pos}
theorem pmk_own0 {C : Addr} {bmB : List Value} {B newId initId : String} (F : ExcBaseFacts B newId initId bmB) (q : PySem.W.excIn X.K C bmB newId = true) (gC : X.mg x = some (.ref C)) (kC : PySem.W.keepIn X.K (.ref C) = true) (r : Raises X (.ref C)) (hg : Gl X x)
    (hdb : (x == ("__debug__" : Str)) = false := by decide) : PMk X (.Call (.Name x p) [] [] pos) (fun _ H Q => Q (.ref C) none H) := by
  intro pins s σ H Q I h
  refine wpAny_Call_Name_kw (ld_glob I hg gC ?_ hdb)
  refine PySem.W.callWith_K0 I.kIn kC ?_
  obtain ⟨bm, N, nm, qn, bs, hdct, sn, sub, ab, col, dd, k0, k1, k2, k3, k5, mN, hC, hN, hni, T⟩ := exc_obj I.kIn q
  obtain ⟨hp1, g1, d1, tk1, os1⟩ := s
  refine wpAny_call_exc_subT F T hC hN hni (fun h' e hm => ?_) (Nat.zero_le _)
  exact mk_of I hm r h (I.hok.gone hm.new)
theorem es_raise0 (c : Nat) (hc : fl.tn.nm c = x) (hT : T.Ok X.prog X.w X.K X.mg X.base L) (htn : T.tn = fl.tn) (C0 : Cxt fl X Wx k) (hg : Gl X x) (hm : T.exo c = true) (hdb : (x == ("__debug__" : Str)) = false := by decide) : ES fl X Wx (.Raise (some (.Call (.Name x p) [] [] pos)) none pos') (mRaise0 T c) := by
  subst hc
  obtain ⟨C, B, nI, iI, bm, E, F, q⟩ := hT.exo c hm
  rw [htn] at E
  refine PS.imp (ps_raise C0.calm C0.tk (pmk_own0 F q E.mg E.kp (raises_own E.rs1 E.rs2) hg hdb)) fun D σ H ⟨W, env, S, R, RE, h⟩ => ?_
  unfold mRaise0 at h
  rw [if_pos hm] at h
  exact h W (.ref C) none σ H (.refl W) R ⟨⟨C, rfl, E.mg⟩, fun _ => rfl, 0, [], fun z => absurd rfl z, rfl, .nil⟩ RE
theorem es_try_as {body suite : List Stmt} {b₀ : Stmt} {n cn : Str} {mb ms : MS} {cv : Value} (i : Nat) (tg : Tg) (hT : T.Ok X.prog X.w X.K X.mg X.base L) (htn : T.tn = fl.tn) (C0 : Cxt fl X Wx k) (Z0 : Stk X) (hN : X.N.Nodup) (hi : X.N[i]? = some n) (hln : X.env.kindOf n = some .local) (hc : Names X cn cv) (htv : TV X.mg fl.tn tg cv)
    (hb : ∀ (W : WX) (pn : List (Addr × Obj)) (xe : Value → Shared → Prop), Cxt fl (X.tr pn xe) W k → ESs fl (X.tr pn xe) W body mb)
    (hsu : ∀ (a C : Addr) (oe : Obj) (d : Option Addr) (pn : List (Addr × Obj)), Zc (.ref C) d oe → (∃ vs, oe.data = .fields vs) → ESs ⟨fl.tn, some (a, .ref C, d)⟩ (X.suite a ((a, oe) :: pn)) (fun _ _ _ _ => False) (b₀ :: suite) ms) :
    ES fl X Wx (.Try body [.ExceptHandler (some (.Name cn np)) (some n) (b₀ :: suite) pos'] [] [] pos) (mTryAs T i tg mb ms) := by
  refine PS.imp (ps_try_as (tb := fun W => TSm (gx X fl) fl.x W mb) (ts := fun a cls d D σ H => ∃ C, cls = .ref C ∧ TSm ⟨X.K, X.mg, fl.tn, some (a, cls, d)⟩ (some (a, cls, d)) (fun _ _ _ _ => False) ms D σ H) (Wout := Wx) Z0.1 Z0.2 hN hi hln hc C0.tk
    (fun W pn xe tk po => hb W pn xe ⟨C0.fx, C0.hr, tk, po, C0.calm⟩)
    (fun a oe cls d pn hz hf => ⟨fun pins s σ H D I ⟨C, ec, h⟩ => by subst ec; exact (hsu a C oe d pn hz hf).run pins s σ H D I h⟩)) fun D σ H ⟨W, env, S, R, RE, q⟩ => ⟨W, env, S, R, RE, ?_⟩
  have hG := C0.gx
  unfold mTryAs at q
  cases e : mb env S with
  | nx _ _ => rw [e] at q; exact q
  | rt _ _ => rw [e] at q; exact q
  | bk _ _ => rw [e] at q; exact q
  | ct _ _ => rw [e] at q; exact q
  | bad => rw [e] at q; exact q
  | exc ex env1 S1 =>
    rw [e] at q
    intro W1 cls d0 σ1 H1 l1 R1 rx RE1
    obtain ⟨C, rfl, hmg⟩ := rx.c
    dsimp only at q
    cases hx : T.xm ex.c tg with
    | none => rw [hx] at q; exact q.elim
    | some b =>
      rw [hx] at q
      have hxm := hT.xm ex.c tg b hx C cv (by rw [htn]; exact hmg) (by rw [htn]; exact htv)
      refine ⟨b, hxm, fun hb1 a ha => ?_, fun hb0 => ?_⟩
      · subst hb1
        refine ⟨C, rfl, ?_⟩
        rw [hG] at R1 RE1 rx
        have nS := R1.noX
        have RE2 : RepE ⟨X.K, X.mg, fl.tn, some (a, .ref C, d0)⟩ (some (a, .ref C, d0)) W1 env1 σ1 := ⟨fun i e => e, RE1.len, fun i d h => let ⟨v, h1, h2⟩ := RE1.at_ i d h; ⟨v, h1, rep_x h2 (noX_of h2)⟩⟩
        obtain ⟨dd, fvs, g1, g2, g3⟩ := rx.f
        have rv : RepV ⟨X.K, X.mg, fl.tn, some (a, .ref C, d0)⟩ W1 (.xv ex.c ex.ks ex.vs) (.ref a) := .xv _ _ _ a C dd d0 fvs rfl hmg rx.h0 g1 g2 (repL_x g3 (noXs_of g3))
        refine ⟨W1, _, S1, R1.x nS, RE2.set rv i, ?_⟩
        refine sufFin_ok l1 nS (fun j d h => ?_) (by rw [hG, C0.fx] at q; exact q)
        obtain ⟨v, _, h2⟩ := RE1.at_ j d h
        exact noX_of h2
      · subst hb0
        exact q W1 _ d0 σ1 H1 l1 R1 rx RE1
end
end Bp


set_option Elab.async false
set_option linter.all false
set_option maxRecDepth 100000
set_option maxHeartbeats 4000000
/-! Bp10: built-ins by data. -/
namespace PySem.W
open PySem PySem.Builtin
theorem bp_bool_tree (x : Value) : Builtin.«bool.__new__» ⟨[.type "bool", x], []⟩ = (do
  if !(← isSubtype (.type "bool") (.type "bool")) then
    rule "bool.__new__.no-subtype"; raiseError "TypeError" s!"bool.__new__({← typeName (.type "bool")}): {← typeName (.type "bool")} is not a subtype of bool"
  ret (.bool (← truthy x))) := by
  rfl
open Builtin in
theorem bp_bool_own {prog : Program} {w : World} {A : Around} {E : Value → Shared → Prop} {s : Shared} {K : Frag} {x C f : Addr} {ox : Obj} {od : Option Obj} {Q : Value → Shared → Prop} (X : K.In s.heap) (I : InstAt s.heap x ox C od)
    (hs : findIn K (.ref C) "__bool__" = some (some (.ref f))) (hf : isFn K (.ref f) = true)
    (h : wpAny (model prog w) A.in1.in1 (call (.ref f) [.ref x]) (BoolBack fun b s' => Q (.bool b) s') E s) : wpAny (model prog w) A (call (.type "bool") [.ref x]) Q E s := by
  refine callType_codes (T := "bool") (Bi := Builtin.«object.__init__») (Q₁ := fun r s₁ => ∃ b, r = .bool b ∧ Q r s₁) PySem.F.called_bool (PySem.F.typeCall_bool_1 _) PySem.F.entry_object_init ?_ ?_
  · refine codeAny_of_tree ?_
    show wpAny _ A.in1.in1 (do checkBuiltinCall "bool.__new__" ⟨[.type "bool", .ref x], []⟩; again (.builtin "bool.__new__" ⟨[.type "bool", .ref x], []⟩)) _ _ s
    refine wpAny_bind (wpAny_of_eq (PySem.F.newCall_bool_1 _) (wpAny_pure ⟨plainId_quiet (by decide +kernel) _, codeAny_builtin PySem.F.entry_bool_new ?_⟩))
    rw [Around.under_plainId (by decide +kernel) _]
    rw [bp_bool_tree]
    refine wpAny_bind (wpAny_of_eq PySem.F.conv_sub_bool ?_)
    rw [if_neg (by decide)]
    refine wpAny_bind (m := callSpecial? (.ref x) (Str.ofString "__bool__") >>= _) ?_
    refine wpAny_bind (m := callSpecial? (.ref x) (Str.ofString "__bool__")) (special_fn X I hs (beq_iff_eq.mp hf) (wpAny_mono h (fun r s' hr => ?_) fun _ _ y => y))
    cases r <;> first | exact hr.elim | exact wpAny_pure (wpAny_pure ⟨_, rfl, hr⟩)
  · rintro obj s₁ ⟨b, rfl, hq⟩
    exact ⟨typeIs_bool _ _, PySem.F.args_object_init_2 _ _, object_init_meets PySem.F.called_bool.init.lookup PySem.F.called_bool.made (by decide) prog w A.in1 _ s₁ ⟨typeIs_bool _ _, rfl, hq⟩⟩
end PySem.W
namespace Bp
open PySem L2 PyProof.Rows
section
variable {fl : Pm} {X : Cx} {Wx : WX} {T : CT} {L k : Nat} {x : Str} {p pos apos : Pos} {e o : Expr} {es : List Expr} {me mo : ME} {ms : List ME} {id : String} {g : Fn}
def Blt (fl : Pm) (X : Cx) (Wx : WX) (f : Value) (g : Fn) : Prop :=
  ∀ (pins : List (Addr × Obj)) (s : Shared) (σ : L2.St) (H : Hp) (vs : List V) (us : List Value) (W : Wd) (ds : List D) (S : Store) (Q : VK), Inv X pins σ H s → Vals vs us → Rel (gx X fl) W S H → RepL (gx X fl) W ds vs →
    Ev (RepV (gx X fl)) (gx X fl) W (g ds S) Q (fun c d H => Wx c d σ H) → wpAny (model X.prog X.w) X.A (call f us) (EP X pins σ Q) X.xe s
theorem ex_callB (hc : Blt fl X Wx (.builtin id) g) (hg : Gl X x) (hm : X.mg x = none) (hv : bootBuiltins x = some (.builtin id)) (ha : EA fl X Wx (e :: es) (me :: ms)) (hn : x ≠ "__name__" := by decide) (hdb : (x == ("__debug__" : Str)) = false := by decide)
    (he : starEach (e :: es) X.env = (false, eval e X.env) :: starEach es X.env := by rfl) (hpl : (backTo pos (starEach es X.env)).any (·.1) = false := by rfl) : EX fl X Wx (.Call (.Name x p) (e :: es) [] pos) (mCall g (me :: ms)) := by
  refine ⟨fun pins s σ H Q I ⟨W, env, S, R, RE, q⟩ => ?_⟩
  refine wpAny_Call_Name_kw (ld_blt I hg hm hv ?_ hn hdb)
  exact PyProof.Rows.callWith_builtin1 (thn (ha.run pos I R RE (Ev.seq q)) fun us s1 ⟨vs, H1, I1, r1, W1, ds, S1, l1, R1, rl, q1⟩ => hc pins s1 σ H1 vs us W1 ds S1 Q I1 r1 R1 rl q1) he hpl
theorem ex_callF (hc : Blt fl X Wx (.builtin id) g) (hg : Gl X x) (hm : X.mg x = some (.builtin id)) (ha : EA fl X Wx (e :: es) (me :: ms)) (hdb : (x == ("__debug__" : Str)) = false := by decide)
    (he : starEach (e :: es) X.env = (false, eval e X.env) :: starEach es X.env := by rfl) (hpl : (backTo pos (starEach es X.env)).any (·.1) = false := by rfl) : EX fl X Wx (.Call (.Name x p) (e :: es) [] pos) (mCall g (me :: ms)) := by
  refine ⟨fun pins s σ H Q I ⟨W, env, S, R, RE, q⟩ => ?_⟩
  refine wpAny_Call_Name_kw (ld_glob I hg hm ?_ hdb)
  exact PyProof.Rows.callWith_builtin1 (thn (ha.run pos I R RE (Ev.seq q)) fun us s1 ⟨vs, H1, I1, r1, W1, ds, S1, l1, R1, rl, q1⟩ => hc pins s1 σ H1 vs us W1 ds S1 Q I1 r1 R1 rl q1) he hpl
theorem ex_callTy (hc : Blt fl X Wx (.type id) g) (hg : Gl X x) (hm : X.mg x = none) (hv : bootBuiltins x = some (.type id)) (ha : EA fl X Wx (e :: es) (me :: ms)) (hn : x ≠ "__name__" := by decide) (hdb : (x == ("__debug__" : Str)) = false := by decide)
    (he : starEach (e :: es) X.env = (false, eval e X.env) :: starEach es X.env := by rfl) (hpl : (backTo pos (starEach es X.env)).any (·.1) = false := by rfl) : EX fl X Wx (.Call (.Name x p) (e :: es) [] pos) (mCall g (me :: ms)) := by
  refine ⟨fun pins s σ H Q I ⟨W, env, S, R, RE, q⟩ => ?_⟩
  refine wpAny_Call_Name_kw (ld_blt I hg hm hv ?_ hn hdb)
  exact PyProof.Rows.callWith_type1 (thn (ha.run pos I R RE (Ev.seq q)) fun us s1 ⟨vs, H1, I1, r1, W1, ds, S1, l1, R1, rl, q1⟩ => hc pins s1 σ H1 vs us W1 ds S1 Q I1 r1 R1 rl q1) he hpl
/-! ### isinstance -/
def tagD (T : CT) (d : D) (S : Store) : Option Tg := match d with
  | .non => some (.b "NoneType")
  | .bl _ => some (.b "bool")
  | .int _ => some (.b "int")
  | .str _ => some (.b "str")
  | .tup _ => some (.b "tuple")
  | .rl _ => some (.b "list")
  | .ins c _ => if T.kn c = true then some (.c c) else none
  | .ref n => (match S[n]? with
    | some (.lst _) => some (.b "list")
    | some (.obj c _) => if T.kn c = true then some (.c c) else none
    | _ => none)
  | _ => none
theorem tag_ok {d : D} {S : Store} {v : V} {W : Wd} {H : Hp} {t : Tg} (hT : T.Ok X.prog X.w X.K X.mg X.base L) (htn : T.tn = fl.tn) (R : Rel (gx X fl) W S H) (r : RepV (gx X fl) W d v) (h : tagD T d S = some t) : ∃ tv, TV X.mg fl.tn t tv ∧ TyX X.K H v tv := by
  cases r with
  | non => cases h; exact ⟨_, .b _, .base .non⟩
  | bl b => cases h; exact ⟨_, .b _, .base (.bl b)⟩
  | int b => cases h; exact ⟨_, .b _, .base (.int b)⟩
  | str b => cases h; exact ⟨_, .b _, .base (.str b)⟩
  | ty _ => cases h
  | glob _ _ _ => cases h
  | tup xs vs a ha _ =>
    cases h
    refine ⟨_, .b _, ?_⟩
    rcases ha with ha | ⟨o, its, n, h1, h2, _⟩
    · exact .base (.tup (R.fr _ _ ha))
    · exact .kTuple h1 h2
  | rl xs vs a hs _ =>
    cases h
    refine ⟨_, .b _, ?_⟩
    exact .base (.lst (R.fr _ _ hs))
  | ins c xs a C dx fvs hc hF hk _ =>
    have h' : (if T.kn c = true then some (Tg.c c) else none) = some t := h
    split at h'
    · rename_i hkn
      cases h'
      obtain ⟨C', cl⟩ := hT.cls c hkn
      rw [htn] at cl
      have := cl.uniq hc
      subst this
      exact ⟨_, .c c C hc, .base (.ins (R.fr _ _ hF) cl.cls cl.ca cl.cn cl.ct cl.mro)⟩
    · cases h'
  | ref n a ha =>
    obtain ⟨o, ho⟩ := R.at ha
    obtain ⟨u, hu, ro⟩ := R.obj n a o ha ho
    unfold tagD at h
    simp only [ho] at h
    cases ro with
    | lst xs vs _ => cases h; exact ⟨_, .b _, .base (.lst hu)⟩
    | dic _ _ _ _ => cases h
    | dead _ => cases h
    | obj c fs C dx fvs hc _ =>
      dsimp only at h
      split at h
      · rename_i hkn
        cases h
        obtain ⟨C', cl⟩ := hT.cls c hkn
        rw [htn] at cl
        have := cl.uniq hc
        subst this
        exact ⟨_, .c c C hc, .base (.ins hu cl.cls cl.ca cl.cn cl.ct cl.mro)⟩
      · cases h
  | xv _ _ _ _ _ _ _ _ _ _ _ _ _ _ => cases h
  | rk _ _ _ _ _ _ _ => cases h
  | sc _ _ _ _ _ => cases h
def clsTg : D → Option Tg
  | .ty n => some (.b n)
  | .glob c => some (.c c)
  | _ => none
theorem cls_ok {d : D} {v : V} {W : Wd} {t : Tg} (r : RepV (gx X fl) W d v) (h : clsTg d = some t) : ∃ tv, TV X.mg fl.tn t tv ∧ ClsV v tv := by
  cases r with
  | ty n => cases h; exact ⟨_, .b n, .ty n⟩
  | glob c a ha => cases h; exact ⟨_, .c c a ha, .own a⟩
  | _ => cases h
def isiAny (T : CT) (t : Tg) : List D → Option Bool
  | [] => some false
  | d :: ds => (clsTg d).bind fun c => (T.isi t c).bind fun a => (isiAny T t ds).bind fun b => some (a || b)
theorem kitAny_or {K : PySem.W.Frag} {t c : Value} {cs : List Value} {a b : Bool} (h1 : PySem.W.kitOne K t c = some a) (h2 : PySem.W.kitAny K t cs = some b) : PySem.W.kitAny K t (c :: cs) = some (a || b) := by
  unfold PySem.W.kitAny
  rw [h1]
  cases a
  · simpa using h2
  · rfl
theorem cls_vals {vs : List V} {us ws : List Value} (h : Paired ClsV vs us) (r : Vals vs ws) : us = ws := by
  induction h generalizing ws with
  | nil => cases r; rfl
  | cons k _ ih =>
    cases r with
    | cons r1 rr => rw [ih rr, k.eq r1]
theorem any_ok {ds : List D} {vs : List V} {W : Wd} {t : Tg} {tv : Value} {b : Bool} (hT : T.Ok X.prog X.w X.K X.mg X.base L) (htn : T.tn = fl.tn) (r : RepL (gx X fl) W ds vs) (ht : TV X.mg fl.tn t tv) (h : isiAny T t ds = some b) :
    ∃ us, Paired ClsV vs us ∧ PySem.W.kitAny X.K tv us = some b := by
  induction ds generalizing vs b with
  | nil => cases r; cases h; exact ⟨[], .nil, rfl⟩
  | cons d ds ih =>
    cases r with
    | cons r1 rr =>
      unfold isiAny at h
      cases hc : clsTg d with
      | none => rw [hc] at h; cases h
      | some c =>
        rw [hc] at h
        obtain ⟨cv, tc, kc⟩ := cls_ok r1 hc
        have h' : ((T.isi t c).bind fun a => (isiAny T t ds).bind fun b => some (a || b)) = some b := h
        cases ha : T.isi t c with
        | none => rw [ha] at h'; cases h'
        | some a =>
          rw [ha] at h'
          cases hb : isiAny T t ds with
          | none => rw [hb] at h'; cases h'
          | some b' =>
            rw [hb] at h'
            cases h'
            obtain ⟨us, p, e⟩ := ih rr hb
            exact ⟨_, .cons kc p, kitAny_or (hT.isi t c a ha _ _ (by rw [htn]; exact ht) (by rw [htn]; exact tc)) e⟩
def isiD (T : CT) : Fn := fun ds S => match ds with
  | [x, c] => (match tagD T x S with
    | some t => (match c with
      | .tup cs => (match isiAny T t cs with
        | some b => .ok (.bl b) S
        | none => .bad)
      | c => (match (clsTg c).bind (T.isi t) with
        | some b => .ok (.bl b) S
        | none => .bad))
    | none => .bad)
  | _ => .bad
theorem bl_isi (hT : T.Ok X.prog X.w X.K X.mg X.base L) (htn : T.tn = fl.tn) : Blt fl X Wx (.builtin "isinstance") (isiD T) := by
  intro pins s σ H vs us W ds S Q I r R rl q
  unfold isiD at q
  split at q
  · rename_i x c
    cases rl with
    | cons r1 rr =>
    cases rr with
    | cons r2 rr =>
      cases rr
      split at q
      · rename_i t ht
        obtain ⟨tv, t1, t2⟩ := tag_ok hT htn R r1 ht
        split at q
        · rename_i cs
          split at q
          · rename_i b hb
            cases r2 with
            | tup _ cvs a ha rc =>
              obtain ⟨ws, pr, e⟩ := any_ok hT htn rc t1 hb
              rcases ha with ha | ⟨⟨oc, od, dt, osl⟩, its, n, h1, h2, h3, _, h5⟩
              · exact call_isiT pins s σ H _ us Q I r ⟨_, a, cvs, tv, ws, b, rfl, R.fr _ _ ha, pr, t2, e, q W _ H (.refl W) R (.bl b)⟩
              · cases h2; cases h3
                have hw := cls_vals pr h5
                subst hw
                exact call_isiK pins s σ H _ us Q I r ⟨_, a, od, its.toList, n, osl, tv, b, rfl, by simpa using h1, t2, e, q W _ H (.refl W) R (.bl b)⟩
          · exact q.elim
        · split at q
          · rename_i b hb
            cases hc : clsTg c with
            | none => rw [hc] at hb; cases hb
            | some cc =>
              rw [hc] at hb
              obtain ⟨cv, tc, kc⟩ := cls_ok r2 hc
              exact call_isi pins s σ H _ us Q I r ⟨_, _, tv, cv, b, rfl, kc, t2, hT.isi t cc b hb _ _ (by rw [htn]; exact t1) (by rw [htn]; exact tc), q W _ H (.refl W) R (.bl b)⟩
          · exact q.elim
      · exact q.elim
  · exact q.elim
def isiX (T : CT) : Fn := fun ds S => match ds with
  | [.xv cx [] _, c] => (match (clsTg c).bind (T.isi (.c cx)) with
    | some b => if T.exo cx = true then .ok (.bl b) S else .bad
    | none => .bad)
  | _ => .bad
/-! ### abs, bool, str, int, len, gcd, - -/
def negD (T : CT) (d : D) (S : Store) : Res D := match d with
  | .int i => .ok (.int (-i)) S
  | .ins c xs => dund T c 19 [.ins c xs] S
  | _ => .bad
theorem un_negD (hT : T.Ok X.prog X.w X.K X.mg X.base L) (htn : T.tn = fl.tn) (C0 : Cxt fl X Wx k) (hL : L ≤ k) : Un1 fl X Wx (unaryOp .USub) (negD T) := by
  intro pins s σ H x v W a S Q I rx R ra q
  obtain ⟨mfr, hF⟩ := I.fr
  unfold negD at q
  split at q
  · cases ra
    exact un_neg pins s σ H _ v Q I rx ⟨_, rfl, q W _ H (.refl W) R (.int _)⟩
  · rename_i c xs
    obtain ⟨A1, C, dx, fvs, od, rfl, rfl, hm, hH, _, _, J⟩ := inst_of I R ra rx
    obtain ⟨cl, f, M, run⟩ := run_dund (vs := [.ref A1]) (us := [.ref A1]) hT htn C0.fx (C0.hr.mono hL) rfl C0.tk I R hm (.cons rfl .nil) (.cons ra .nil) q
    rw [← htn, hT.dn 19 (by decide)] at M
    exact unary_own hF I.ok.mod.kin J (by decide) rfl M.at_ M.fn run
  · exact q.elim
def absD (T : CT) : Fn := fun ds S => match ds with
  | [.int i] => .ok (.int (if i < 0 then -i else i)) S
  | [.ins c xs] => dund T c 20 [.ins c xs] S
  | _ => .bad
theorem bl_abs (hT : T.Ok X.prog X.w X.K X.mg X.base L) (htn : T.tn = fl.tn) (C0 : Cxt fl X Wx k) (hL : L + 1 ≤ k) : Blt fl X Wx (.builtin "abs") (absD T) := by
  intro pins s σ H vs us W ds S Q I r R rl q
  obtain ⟨mfr, hF⟩ := I.fr
  unfold absD at q
  split at q
  · rename_i i
    cases rl with
    | cons r1 rr =>
      cases rr; cases r1
      exact call_abs pins s σ H _ us Q I r ⟨i, rfl, q W _ H (.refl W) R (.int _)⟩
  · rename_i c xs
    cases rl with
    | cons r1 rr =>
      cases rr
      obtain ⟨u, rfl, ru⟩ := vals1 r
      obtain ⟨A1, C, dx, fvs, od, rfl, rfl, hm, hH, _, _, J⟩ := inst_of I R r1 ru
      obtain ⟨cl, f, M, run⟩ := run_dund (vs := [.ref A1]) (us := [.ref A1]) hT htn C0.fx (C0.hr.mono hL).in1 rfl C0.tk I R hm (.cons rfl .nil) (.cons r1 .nil) q
      rw [← htn, hT.dn 20 (by decide)] at M
      exact abs_own hF I.ok.mod.kin J M.at_ M.fn run
  · exact q.elim
def onlyB (r : Res D) : Res D := match r with
  | .ok (.bl b) S' => .ok (.bl b) S'
  | .exc e S' => .exc e S'
  | _ => .bad
theorem onlyB_ok {G : Gs} {W : Wd} {r : Res D} {Q : VK} {E : XK} (q : Ev (RepV G) G W (onlyB r) Q E) : Ev (RepV G) G W r (fun v H => (∃ b, v = .bl b) ∧ Q v H) E := by
  cases r with
  | bad => exact q
  | exc e S => exact q
  | ok d S =>
    cases d with
    | bl b =>
      intro W' v H' l R rv
      refine ⟨?_, q W' v H' l R rv⟩
      cases rv
      exact ⟨_, rfl⟩
    | _ => exact (show False from q).elim
def onlyS (r : Res D) : Res D := match r with
  | .ok (.str b) S' => .ok (.str b) S'
  | .exc e S' => .exc e S'
  | _ => .bad
theorem onlyS_ok {G : Gs} {W : Wd} {r : Res D} {Q : VK} {E : XK} (q : Ev (RepV G) G W (onlyS r) Q E) : Ev (RepV G) G W r (fun v H => (∃ b, v = .str b) ∧ Q v H) E := by
  cases r with
  | bad => exact q
  | exc e S => exact q
  | ok d S =>
    cases d with
    | str b =>
      intro W' v H' l R rv
      refine ⟨?_, q W' v H' l R rv⟩
      cases rv
      exact ⟨_, rfl⟩
    | _ => exact (show False from q).elim
def boolD (T : CT) : Fn := fun ds S => match ds with
  | [.int i] => .ok (.bl (i != 0)) S
  | [.bl b] => .ok (.bl b) S
  | [.ins c xs] => onlyB (dund T c 21 [.ins c xs] S)
  | _ => .bad
theorem bl_bool (hT : T.Ok X.prog X.w X.K X.mg X.base L) (htn : T.tn = fl.tn) (C0 : Cxt fl X Wx k) (hL : L + 2 ≤ k) : Blt fl X Wx (.type "bool") (boolD T) := by
  intro pins s σ H vs us W ds S Q I r R rl q
  obtain ⟨mfr, hF⟩ := I.fr
  unfold boolD at q
  split at q
  · rename_i i
    cases rl with
    | cons r1 rr =>
      cases rr; cases r1
      exact call_bool1 pins s σ H _ us Q I r (.inl ⟨i, rfl, q W _ H (.refl W) R (.bl _)⟩)
  · rename_i b
    cases rl with
    | cons r1 rr =>
      cases rr; cases r1
      exact call_bool1 pins s σ H _ us Q I r (.inr ⟨b, rfl, q W _ H (.refl W) R (.bl _)⟩)
  · rename_i c xs
    cases rl with
    | cons r1 rr =>
      cases rr
      obtain ⟨u, rfl, ru⟩ := vals1 r
      obtain ⟨A1, C, dx, fvs, od, rfl, rfl, hm, hH, _, _, J⟩ := inst_of I R r1 ru
      obtain ⟨cl, f, M, run⟩ := run_dund (vs := [.ref A1]) (us := [.ref A1]) hT htn C0.fx (C0.hr.mono hL).in1.in1 rfl C0.tk I R hm (.cons rfl .nil) (.cons r1 .nil) (onlyB_ok q)
      rw [← htn, hT.dn 21 (by decide)] at M
      refine PySem.W.bp_bool_own I.kIn J M.at_ M.fn (wpAny_mono run (fun v s' hv => ?_) fun _ _ e => e)
      obtain ⟨z, H', I', rz, ⟨b, rfl⟩, q2⟩ := hv
      cases rz
      exact ⟨.bl b, H', I', rfl, q2⟩
  · exact q.elim
def strD (T : CT) : Fn := fun ds S => match ds with
  | [.int i] => if i.natAbs.log2 < 1920 then .ok (.str (toString i)) S else .bad
  | [.str z] => .ok (.str z) S
  | [.ins c xs] => onlyS (dund T c 22 [.ins c xs] S)
  | _ => .bad
theorem bl_str (hT : T.Ok X.prog X.w X.K X.mg X.base L) (htn : T.tn = fl.tn) (C0 : Cxt fl X Wx k) (hL : L + 3 ≤ k) : Blt fl X Wx (.type "str") (strD T) := by
  intro pins s σ H vs us W ds S Q I r R rl q
  obtain ⟨mfr, hF⟩ := I.fr
  unfold strD at q
  split at q
  · rename_i i
    split at q
    · rename_i hi
      cases rl with
      | cons r1 rr =>
        cases rr; cases r1
        exact call_str_int pins s σ H _ us Q I r ⟨i, rfl, hi, q W _ H (.refl W) R (.str _)⟩
    · exact q.elim
  · rename_i z
    cases rl with
    | cons r1 rr =>
      cases rr; cases r1
      exact SkE.call_str_str pins s σ H _ us Q I r ⟨z, rfl, q W _ H (.refl W) R (.str _)⟩
  · rename_i c xs
    cases rl with
    | cons r1 rr =>
      cases rr
      obtain ⟨u, rfl, ru⟩ := vals1 r
      obtain ⟨A1, C, dx, fvs, od, rfl, rfl, hm, hH, _, _, J⟩ := inst_of I R r1 ru
      have hr3 := (C0.hr.mono hL)
      obtain ⟨cl, f, M, run⟩ := run_dund (vs := [.ref A1]) (us := [.ref A1]) hT htn C0.fx (hr3.mono (Nat.le_succ _)).in1.in1 rfl C0.tk I R hm (.cons rfl .nil) (.cons r1 .nil) (onlyS_ok q)
      rw [← htn, hT.dn 22 (by decide)] at M
      refine PySem.W.kso_call hr3.in1.in1.units0 I.kIn J M.at_ M.fn (wpAny_mono run (fun v s' hv => ?_) fun _ _ e => e)
      obtain ⟨z, H', I', rz, ⟨b, rfl⟩, q2⟩ := hv
      obtain ⟨t, rfl⟩ := rz
      exact ⟨.str b, H', I', ⟨t, rfl⟩, q2⟩
  · exact q.elim
def intD : Fn := fun ds S => match ds with
  | [.int i] => .ok (.int i) S
  | [.bl b] => .ok (.int (if b then 1 else 0)) S
  | _ => .bad
theorem bl_int : Blt fl X Wx (.type "int") intD := by
  intro pins s σ H vs us W ds S Q I r R rl q
  unfold intD at q
  split at q
  · rename_i i
    cases rl with
    | cons r1 rr =>
      cases rr; cases r1
      exact call_int1 pins s σ H _ us Q I r (.inl ⟨i, rfl, q W _ H (.refl W) R (.int _)⟩)
  · rename_i b
    cases rl with
    | cons r1 rr =>
      cases rr; cases r1
      exact call_int1 pins s σ H _ us Q I r (.inr ⟨b, rfl, q W _ H (.refl W) R (.int _)⟩)
  · exact q.elim
def lenD : Fn := fun ds S => match ds with
  | [.tup xs] => .ok (.int xs.length) S
  | [.rl xs] => .ok (.int xs.length) S
  | [.sc xs] => .ok (.int xs.length) S
  | [.ref n] => (match S[n]? with
    | some (.lst xs) => .ok (.int xs.length) S
    | _ => .bad)
  | [.str z] => if z.length ≤ sizeLine then .ok (.int z.length) S else .bad
  | _ => .bad
theorem sql_up {K : PySem.W.Frag} {F H : Hp} (h : ∀ a o, F a = some o → H a = some o) {a : Addr} {xs : List V} (r : SqL K F a xs) : SqL K H a xs := sql_mono h r
theorem bl_len : Blt fl X Wx (.builtin "len") lenD := by
  intro pins s σ H vs us W ds S Q I r R rl q
  unfold lenD at q
  split at q
  · rename_i xs
    cases rl with
    | cons r1 rr =>
      cases rr
      cases r1 with
      | tup _ zs a ha rz => exact call_len_seq pins s σ H _ us Q I r ⟨a, zs, rfl, .inr (ha.sqt R.fr), q W _ H (.refl W) R (by rw [rz.length]; exact .int _)⟩
  · rename_i xs
    cases rl with
    | cons r1 rr =>
      cases rr
      cases r1 with
      | rl _ zs a ha rz => exact call_len_seq pins s σ H _ us Q I r ⟨a, zs, rfl, .inl (SqL.of (R.fr _ _ ha)), q W _ H (.refl W) R (by rw [rz.length]; exact .int _)⟩
  · rename_i xs
    cases rl with
    | cons r1 rr =>
      cases rr
      cases r1 with
      | sc _ zs a ha rz => exact call_len_seq pins s σ H _ us Q I r ⟨a, zs, rfl, .inl (sql_up R.fr ha), q W _ H (.refl W) R (by rw [rz.length]; exact .int _)⟩
  · rename_i n
    split at q
    · rename_i xs hS
      cases rl with
      | cons r1 rr =>
        cases rr
        cases r1 with
        | ref _ a ha =>
          obtain ⟨ho, hH, ro⟩ := R.obj n a _ ha hS
          cases ro with
          | lst _ zs rz => exact call_len_seq pins s σ H _ us Q I r ⟨a, zs, rfl, .inl (.inl (.inl hH)), q W _ H (.refl W) R (by rw [rz.length]; exact .int _)⟩
    · exact q.elim
  · rename_i z
    split at q
    · rename_i hz
      cases rl with
      | cons r1 rr =>
        cases rr; cases r1
        exact call_len_str pins s σ H _ us Q I r ⟨z, rfl, hz, q W _ H (.refl W) R (.int _)⟩
    · exact q.elim
  · exact q.elim
def gcdD : Fn := fun ds S => match ds with
  | [.int a, .int b] => .ok (.int ((Nat.gcd a.natAbs b.natAbs : Nat) : Int)) S
  | _ => .bad
theorem bl_gcd : Blt fl X Wx (.builtin "math.gcd") gcdD := by
  intro pins s σ H vs us W ds S Q I r R rl q
  unfold gcdD at q
  split at q
  · rename_i a b
    cases rl with
    | cons r1 rr =>
    cases rr with
    | cons r2 rr =>
      cases rr; cases r1; cases r2
      exact cr_gcd pins s σ H _ us Q I r ⟨a, b, rfl, q W _ H (.refl W) R (.int _)⟩
  · exact q.elim
/-! ### is None -/
def isND (a b : D) (S : Store) : Res D := match a, b with
  | .non, .non => .ok (.bl true) S
  | _, .non => .ok (.bl false) S
  | .bl x, .bl y => .ok (.bl (decide (x = y))) S
  | _, _ => .bad
def isnND (a b : D) (S : Store) : Res D := match a, b with
  | .non, .non => .ok (.bl false) S
  | _, .non => .ok (.bl true) S
  | .bl x, .bl y => .ok (.bl (!decide (x = y))) S
  | _, _ => .bad
theorem rep_non {G : Gs} {W : Wd} {d : D} {v : V} (r : RepV G W d v) : decide (v = .non) = (match d with | .non => true | _ => false) := by
  cases r <;> simp
theorem bin_is : Bin2 fl X Wx (compareOp .Is) isND := by
  intro pins s σ H x y v u W a b S Q I rx ry R ra rb q
  have rn := rep_non ra
  cases rb with
  | non =>
    refine op_isN pins s σ H _ _ v u Q I rx ry ⟨rfl, ?_⟩
    rw [rn]
    cases a <;> exact q W _ H (.refl W) R (.bl _)
  | bl z =>
    cases ra with
    | bl z2 => exact op_is_bl pins s σ H _ _ _ _ Q I rx ry ⟨_, _, rfl, rfl, q W _ H (.refl W) R (.bl _)⟩
    | _ => exact q.elim
  | _ => cases ra <;> exact q.elim
theorem bin_isnot : Bin2 fl X Wx (compareOp .IsNot) isnND := by
  intro pins s σ H x y v u W a b S Q I rx ry R ra rb q
  have rn := rep_non ra
  cases rb with
  | non =>
    refine op_notN pins s σ H _ _ v u Q I rx ry ⟨rfl, ?_⟩
    rw [rn]
    cases a <;> exact q W _ H (.refl W) R (.bl _)
  | bl z =>
    cases ra with
    | bl z2 => exact op_isnot_bl pins s σ H _ _ _ _ Q I rx ry ⟨_, _, rfl, rfl, q W _ H (.refl W) R (.bl _)⟩
    | _ => exact q.elim
  | _ => cases ra <;> exact q.elim
end
end Bp


set_option Elab.async false
set_option linter.all false
set_option maxRecDepth 100000
set_option maxHeartbeats 4000000
/-! Bp11: subscripts, slices, methods of built-ins, names op= e. -/
namespace Bp
open PySem L2 PyProof.Rows
section
variable {fl : Pm} {X : Cx} {Wx : WX} {T : CT} {L k : Nat} {x : Str} {p pos pos' apos cpos : Pos} {e a b o : Expr} {es : List Expr} {me mo ma mb : ME} {ms : List ME} {id : String} {g : Fn}
theorem RepL.atI {G : Gs} {W : Wd} {ds : List D} {vs : List V} {i : Int} {d : D} (r : RepL G W ds vs) (h : L2.atI ds i = some d) : ∃ v, L2.atI vs i = some v ∧ RepV G W d v := by
  unfold L2.atI at h ⊢
  rw [r.length] at h
  cases e : ixN vs.length i with
  | none => rw [e] at h; cases h
  | some j =>
    rw [e] at h
    exact r.get h
def seqD (d : D) (S : Store) : Option (List D) := match d with
  | .tup xs => some xs
  | .rl xs => some xs
  | .sc xs => some xs
  | .ref n => (match S[n]? with
    | some (.lst xs) => some xs
    | _ => none)
  | _ => none
def ixD (d i : D) (S : Store) : Res D := match i with
  | .int i => (match d with
    | .str z => if z.length ≤ sizeLine then (match L2.atI z.cps.toList i with
      | some c => .ok (.str ⟨#[c]⟩) S
      | none => .bad) else .bad
    | d => (match seqD d S with
      | some xs => (match L2.atI xs i with
        | some v => .ok v S
        | none => .bad)
      | none => .bad))
  | _ => .bad
theorem seq_ok {d : D} {S : Store} {v : V} {xs : List D} {W : Wd} {H : Hp} (R : Rel (gx X fl) W S H) (r : RepV (gx X fl) W d v) (h : seqD d S = some xs) : ∃ p vs, v = .ref p ∧ (SqL X.K H p vs ∨ SqT X.K H p vs) ∧ RepL (gx X fl) W xs vs := by
  cases r with
  | tup _ vs p hp rv => cases h; exact ⟨p, vs, rfl, .inr (hp.sqt R.fr), rv⟩
  | rl _ vs p hp rv => cases h; exact ⟨p, vs, rfl, .inl (SqL.of (R.fr _ _ hp)), rv⟩
  | sc _ vs p hp rv => cases h; exact ⟨p, vs, rfl, .inl (sql_mono R.fr hp), rv⟩
  | ref n p hp =>
    unfold seqD at h
    dsimp only at h
    split at h
    · rename_i xs' hS
      cases h
      obtain ⟨ho, hH, ro⟩ := R.obj n p _ hp hS
      cases ro with
      | lst _ vs rv => exact ⟨p, vs, rfl, .inl (.inl (.inl hH)), rv⟩
    · cases h
  | _ => cases h
theorem ex_ix (ha : EX fl X Wx a ma) (hb : EX fl X Wx b mb) (hs : PlainIx b := by intro _ _; rfl) : EX fl X Wx (.Subscript a b pos) (mBin ixD ma mb) := by
  refine ⟨fun pins s σ H Q I ⟨W, env, S, R, RE, q⟩ => ?_⟩
  refine Subscript_ (thn (ha.run I R RE (Ev.seq q)) fun v s1 ⟨x, H1, I1, r1, W1, d1, S1, l1, R1, ra, q1⟩ => thn (hb.run I1 R1 (RE.mono l1) (Ev.seq q1)) fun u s2 ⟨y, H2, I2, r2, W2, d2, S2, l2, R2, rb, q2⟩ => ?_)
  have ra2 := ra.mono l2
  unfold ixD at q2
  split at q2
  · rename_i i
    cases rb
    split at q2
    · rename_i z _
      split at q2
      · rename_i hz
        split at q2
        · rename_i c hc
          cases ra2
          exact ix_str a b pins s2 σ H2 _ _ v u Q I2 r1 r2 ⟨z, i, c, rfl, rfl, hz, hc, q2 W2 _ H2 (.refl W2) R2 (.str _)⟩ (hs _ _)
        · exact q2.elim
      · exact q2.elim
    · split at q2
      · rename_i xs hx
        split at q2
        · rename_i d hd
          obtain ⟨p, vs, rfl, hsq, rv⟩ := seq_ok R2 ra2 hx
          obtain ⟨z, hz, rz⟩ := rv.atI hd
          rcases hsq with hsq | hsq
          · exact ix_list a b pins s2 σ H2 _ _ v u Q I2 r1 r2 ⟨p, vs, i, z, rfl, rfl, hsq, hz, q2 W2 _ H2 (.refl W2) R2 rz⟩ (hs _ _)
          · exact ix_tup a b pins s2 σ H2 _ _ v u Q I2 r1 r2 ⟨p, vs, i, z, rfl, rfl, hsq, hz, q2 W2 _ H2 (.refl W2) R2 rz⟩ (hs _ _)
        · exact q2.elim
      · exact q2.elim
  · exact q2.elim
/-! ### slices -/
def RpOI (_ : Wd) (a b : Option Int) : Prop := a = b
def EO (fl : Pm) (X : Cx) (Wx : WX) (eo : Option Expr) (m : Env → Store → Res (Option Int)) : Prop := PO X eo (Tx RpOI (gx X fl) fl.x Wx m)
theorem PO.imp {eo : Option Expr} {t t' : TO} (h : PO X eo t) (c : ∀ σ H Q, t' σ H Q → t σ H Q) : PO X eo t' := ⟨fun pins s σ H Q I q => h.run pins s σ H Q I (c σ H Q q)⟩
def mPn : Env → Store → Res (Option Int) := fun _ S => .ok none S
def asI (d : D) (S : Store) : Res (Option Int) := match d with
  | .int i => .ok (some i) S
  | _ => .bad
def mPs (m : ME) : Env → Store → Res (Option Int) := fun env S => (m env S).bind asI
theorem eo_none : EO fl X Wx none mPn := PO.imp po_none fun σ H Q ⟨W, env, S, R, RE, q⟩ => q W none H (.refl W) R rfl
theorem eo_some (he : EX fl X Wx e me) : EO fl X Wx (some e) (mPs me) := PO.imp (po_some he) fun σ H Q ⟨W, env, S, R, RE, q⟩ => ⟨W, env, S, R, RE, Ev.imp (Ev.seq q) fun v H1 ⟨W1, d1, S1, l1, R1, ra, q1⟩ => by
  cases ra with
  | int i => exact ⟨i, rfl, q1 W1 _ H1 (.refl W1) R1 rfl⟩
  | _ => exact (show False from q1).elim⟩
def cutD (xs : List D) (lo hi : Option Int) : List D := (xs.drop (HT.sIx xs.length 0 lo)).take (HT.sIx xs.length xs.length hi - HT.sIx xs.length 0 lo)
theorem RepL.cut {G : Gs} {W : Wd} {ds : List D} {vs : List V} (r : RepL G W ds vs) (lo hi : Option Int) : RepL G W (cutD ds lo hi) (cutV vs lo hi) := by
  unfold cutD cutV
  rw [r.length]
  exact (r.drop _).take _
def slD (d : D) (lo hi : Option Int) (S : Store) : Res D := match d with
  | .rl xs => .ok (.ref S.length) (S ++ [.lst (cutD xs lo hi)])
  | .sc xs => .ok (.ref S.length) (S ++ [.lst (cutD xs lo hi)])
  | .ref n => (match S[n]? with
    | some (.lst xs) => .ok (.ref S.length) (S ++ [.lst (cutD xs lo hi)])
    | _ => .bad)
  | .tup xs => .ok (.tup (cutD xs lo hi)) S
  | .str z => if z.length ≤ sizeLine then .ok (.str (Txt.slice z lo hi)) S else .bad
  | _ => .bad
def mSl (m : ME) (ml mh : Env → Store → Res (Option Int)) : ME := fun env S => (m env S).bind fun d S1 => (ml env S1).bind fun lo S2 => (mh env S2).bind fun hi S3 => slD d lo hi S3
theorem slD_ok {d : D} {v : V} {lo hi : Option Int} {W : Wd} {S : Store} {H : Hp} {Q : VK} {E : XK} (R : Rel (gx X fl) W S H) (ra : RepV (gx X fl) W d v) (q : Ev (RepV (gx X fl)) (gx X fl) W (slD d lo hi S) Q E) : (rSlL X.K v lo hi H Q ∨ rSlA X.K v lo hi H Q) ∨ C8.rSlX v lo hi H Q := by
  unfold slD at q
  split at q
  · rename_i xs
    cases ra with
    | rl _ vs A hA rv =>
      refine .inl (.inl ⟨A, vs, rfl, SqL.of (R.fr _ _ hA), fun p hp => ?_⟩)
      have lw : Le W ⟨W.F, W.μ ++ [p], W.xs⟩ := ⟨fun _ _ e => e, List.prefix_append _ _, List.prefix_rfl⟩
      obtain ⟨l4, R4⟩ := R.new hp (o := .lst (cutD xs lo hi)) (ho := .lst (cutV vs lo hi)) (.lst _ _ (RepL.mono lw (rv.cut lo hi)))
      exact q _ _ _ l4 R4 (.ref _ _ (by show (W.μ ++ [p])[S.length]? = some p; rw [← R.len]; simp))
  · rename_i xs
    cases ra with
    | sc _ vs A hA rv =>
      refine .inl (.inl ⟨A, vs, rfl, sql_mono R.fr hA, fun p hp => ?_⟩)
      have lw : Le W ⟨W.F, W.μ ++ [p], W.xs⟩ := ⟨fun _ _ e => e, List.prefix_append _ _, List.prefix_rfl⟩
      obtain ⟨l4, R4⟩ := R.new hp (o := .lst (cutD xs lo hi)) (ho := .lst (cutV vs lo hi)) (.lst _ _ (RepL.mono lw (rv.cut lo hi)))
      exact q _ _ _ l4 R4 (.ref _ _ (by show (W.μ ++ [p])[S.length]? = some p; rw [← R.len]; simp))
  · rename_i n
    split at q
    · rename_i xs hS
      cases ra with
      | ref _ A hA =>
        obtain ⟨ho, hH, ro⟩ := R.obj n A _ hA hS
        cases ro with
        | lst _ vs rv =>
          refine .inl (.inl ⟨A, vs, rfl, .inl (.inl hH), fun p hp => ?_⟩)
          have lw : Le W ⟨W.F, W.μ ++ [p], W.xs⟩ := ⟨fun _ _ e => e, List.prefix_append _ _, List.prefix_rfl⟩
          obtain ⟨l4, R4⟩ := R.new hp (o := .lst (cutD xs lo hi)) (ho := .lst (cutV vs lo hi)) (.lst _ _ (RepL.mono lw (rv.cut lo hi)))
          exact q _ _ _ l4 R4 (.ref _ _ (by show (W.μ ++ [p])[S.length]? = some p; rw [← R.len]; simp))
    · exact q.elim
  · rename_i xs
    cases ra with
    | tup _ vs A hA rv =>
      refine .inl (.inr ⟨A, vs, rfl, hA.sqt R.fr, fun hw => ?_, fun _ p hp => ?_⟩)
      · have e : cutD xs lo hi = xs := by
          unfold cutD
          rw [← rv.length] at hw
          rw [hw.1, hw.2]
          simp
        rw [e] at q
        exact q W _ H (.refl W) R (.tup _ _ A hA rv)
      · obtain ⟨l4, R4⟩ := R.fix hp (.tup (cutV vs lo hi))
        exact q _ _ _ l4 R4 (.tup _ _ p (.inl upd_same) ((rv.cut lo hi).mono l4))
  · rename_i z
    split at q
    · rename_i hz
      cases ra
      exact .inr ⟨z, rfl, hz, q W _ H (.refl W) R (.str _)⟩
    · exact q.elim
  · exact q.elim
theorem ex_slice {lo hi : Option Expr} {p2 : Pos} {ml mh : Env → Store → Res (Option Int)} (he : EX fl X Wx e me) (hl : EO fl X Wx lo ml) (hh : EO fl X Wx hi mh) : EX fl X Wx (.Subscript e (.Slice lo hi none p2) pos) (mSl me ml mh) := by
  refine PE.imp (pe_slice ((SlR.or sl_list sl_tupA).or C8.sl_txt) he hl hh) fun σ H Q ⟨W, env, S, R, RE, q⟩ => ⟨W, env, S, R, RE, Ev.imp (Ev.seq q) fun v H1 ⟨W1, d1, S1, l1, R1, ra, q1⟩ => ?_⟩
  refine ⟨W1, env, S1, R1, RE.mono l1, Ev.imp (Ev.seq q1) fun l H2 ⟨W2, d2, S2, l2, R2, rl, q2⟩ => ?_⟩
  cases rl
  refine ⟨W2, env, S2, R2, (RE.mono l1).mono l2, Ev.imp (Ev.seq q2) fun h H3 ⟨W3, d3, S3, l3, R3, rh, q3⟩ => ?_⟩
  cases rh
  exact slD_ok R3 ((ra.mono l2).mono l3) q3
/-! ### methods of built-in types -/
def tyD (ty : String) (d : D) (S : Store) : Bool := match d with
  | .str _ => ty == "str"
  | .rl _ => ty == "list"
  | .ref n => (match S[n]? with
    | some (.lst _) => ty == "list"
    | _ => false)
  | _ => false
theorem tyD_ok {ty : String} {d : D} {S : Store} {v : V} {W : Wd} {H : Hp} (R : Rel (gx X fl) W S H) (r : RepV (gx X fl) W d v) (h : tyD ty d S = true) : tyV X.K ty v H := by
  cases r with
  | str z => exact beq_iff_eq.mp h
  | rl _ vs p hp rv => exact .inl ⟨beq_iff_eq.mp h, vs, SqL.of (R.fr _ _ hp)⟩
  | ref n p hp =>
    unfold tyD at h
    dsimp only at h
    split at h
    · rename_i xs hS
      obtain ⟨ho, hH, ro⟩ := R.obj n p _ hp hS
      cases ro with
      | lst _ vs rv => exact .inl ⟨beq_iff_eq.mp h, vs, .inl (.inl hH)⟩
    · cases h
  | _ => cases h
def mBm (ty : String) (g : Fn) (mo : ME) (ms : List ME) : ME := fun env S => (mo env S).bind fun d S1 => if tyD ty d S1 = true then (mArgs ms env S1).bind fun ds S2 => g (d :: ds) S2 else .bad
theorem ex_bm {ty : String} {name : Str} (pa : PlainAttrs ty) (slot : Slot ty name id) (hty : typeOf (.builtin id) = pure (.type "method_descriptor")) (hm : Blt fl X Wx (.builtin id) g) (ho : EX fl X Wx o mo) (ha : EA fl X Wx (e :: es) (me :: ms))
    (hbase : attributeBase o name X.env (eval o X.env) = eval o X.env := by rfl)
    (hfew : ((backTo cpos (starEach (e :: es) X.env)).all (fun x => !x.1) && (backToKw cpos (keywordEach [] X.env)).all (fun x => x.1.isSome)
      && decide ((e :: es).length + ([] : List Keyword).length + (if ([] : List Keyword).isEmpty then 0 else 1) < 30)) = true := by rfl)
    (hline : (apos.endLine == cpos.line) = true := by rfl) (hs : starEach (e :: es) X.env = (false, eval e X.env) :: starEach es X.env := by rfl) (hplain : (backTo cpos (starEach es X.env)).any (·.1) = false := by rfl) :
    EX fl X Wx (.Call (.Attribute o name apos) (e :: es) [] cpos) (mBm ty g mo (me :: ms)) := by
  refine ⟨fun pins s σ H Q I ⟨W, env, S, R, RE, q⟩ => ?_⟩
  refine wpAny_Call_method_late hbase hfew hline rfl (thn (ho.run I R RE (Ev.seq q)) fun v s1 ⟨x, H1, I1, r1, W1, d, S1, l1, R1, ra, q1⟩ => ?_)
  split at q1
  · rename_i ht
    obtain ⟨h1, h2⟩ := tyV_is I1 r1 (tyD_ok R1 ra ht)
    refine ⟨ty, id, pa, slot, hty, h1, h2, ?_⟩
    have hA := ha.run cpos I1 R1 (RE.mono l1) (Ev.seq q1)
    rw [hs] at hA ⊢
    refine Calls.callWith_builtin (by show (false || (backTo cpos (starEach es X.env)).any (·.1)) = false; rw [hplain] <;> rfl) (Calls.evalArgs_plain ?_)
    exact thn hA fun us s2 ⟨vs, H2, I2, r2, W2, ds, S2, l2, R2, rl, q2⟩ => hm pins s2 σ H2 (_ :: vs) (v :: us) W2 (d :: ds) S2 Q I2 (.cons r1 r2) R2 (.cons (ra.mono l2) rl) q2
  · exact q1.elim
theorem ex_bm0 {ty : String} {name : Str} (pa : PlainAttrs ty) (slot : Slot ty name id) (hty : typeOf (.builtin id) = pure (.type "method_descriptor")) (hm : Blt fl X Wx (.builtin id) g) (ho : EX fl X Wx o mo)
    (hbase : attributeBase o name X.env (eval o X.env) = eval o X.env := by rfl) (hline : (apos.endLine == cpos.line) = true := by rfl) : EX fl X Wx (.Call (.Attribute o name apos) [] [] cpos) (mBm ty g mo []) := by
  refine ⟨fun pins s σ H Q I ⟨W, env, S, R, RE, q⟩ => ?_⟩
  refine wpAny_Call_method0_late hbase hline (thn (ho.run I R RE (Ev.seq q)) fun v s1 ⟨x, H1, I1, r1, W1, d, S1, l1, R1, ra, q1⟩ => ?_)
  split at q1
  · rename_i ht
    obtain ⟨h1, h2⟩ := tyV_is I1 r1 (tyD_ok R1 ra ht)
    have q2 : Ev (RepV (gx X fl)) (gx X fl) W1 (g [d] S1) Q (fun c d H => Wx c d σ H) := q1
    exact ⟨ty, id, pa, slot, hty, h1, h2, Calls.callWith_builtin rfl (PySem.evalArgs_none (hm pins s1 σ H1 [_] [v] W1 [d] S1 Q I1 (.cons r1 .nil) R1 (.cons ra .nil) q2))⟩
  · exact q1.elim
def appD : Fn := fun ds S => match ds with
  | [.ref n, y] => (match S[n]? with
    | some (.lst xs) => if xs.length < sizeLine then .ok .non (S.set n (.lst (xs ++ [y]))) else .bad
    | _ => .bad)
  | _ => .bad
theorem bl_append : Blt fl X Wx (.builtin "list.append") appD := by
  intro pins s σ H vs us W ds S Q I r R rl q
  unfold appD at q
  split at q
  · rename_i n y
    split at q
    · rename_i xs hS
      split at q
      · rename_i hz
        cases rl with
        | cons r1 rr =>
        cases rr with
        | cons r2 rr =>
          cases rr
          cases r1 with
          | ref _ A hA =>
            obtain ⟨ho, hH, ro⟩ := R.obj n A _ hA hS
            cases ro with
            | lst _ zs rv =>
              cases r with
              | cons u1 ur =>
                refine mt_append pins s σ H _ _ _ _ Q I u1 ur ⟨A, zs, _, rfl, rfl, hH, by rw [← rv.length]; exact hz, ?_⟩
                exact q W _ _ (.refl W) (R.put hA hS (by intro h; cases h) (.lst _ _ (rv.append (.cons r2 .nil)))) .non
      · exact q.elim
    · exact q.elim
  · exact q.elim
def mAug (i : Nat) (g : D → D → Store → Res D) (me : ME) : MS := fun env S => match env[i]? with
  | some (some d) => onR (me env S) env fun y S1 => onR (g d y S1) env fun z S2 => .nx (env.set i (some z)) S2
  | _ => .bad
end
end Bp


set_option Elab.async false
set_option linter.all false
set_option maxRecDepth 100000
set_option maxHeartbeats 4000000
/-! Bp12: a def that declines. -/
namespace Bp
open PySem L2 PyProof.Rows
def CF : CXT := fun _ _ _ _ _ _ => False
section
variable {P : Program} {w : World} {K : PySem.W.Frag} {mg : Str → Option Value} {base : Heap}
abbrev cxN (P : Program) (w : World) (K : PySem.W.Frag) (mg : Str → Option Value) (base : Heap) (N : List Str) (qual : Str) (st : Stmt) (f : Addr) (cdv : Value) (A : Around) (outer : List PySem.Env) (s : Shared) (H : Hp) : Cx :=
  cxOf CF P w K mg base N qual (defScope st) f cdv A outer s H E0
theorem ni_mk {tn : Tn} {x qual : Str} {st s1 s2 : Stmt} {f : Addr} {fd : FuncData} {N : List Str} {k c : Nat} {pp pr : Pos} {m1 m2 : MS} {dvs : List V} {kws : List (Str × V)} (F : FunD K x qual (defArgs st) (defBody st) (defScope st) dvs kws f fd) (Sc : FnScope N ["self", "other"] (defScope st)) (hbod : defBody st = [s1, s2, .Return (some (.Name "NotImplemented" pp)) pr]) (hmg : mg "NotImplemented" = none)
    (hgl : ∀ (cdv : Value) (A : Around) (outer : List PySem.Env) (s : Shared) (H : Hp), Gl (cxN P w K mg base N qual st f cdv A outer s H) "NotImplemented")
    (h1 : ∀ (cdv : Value) (A : Around) (outer : List PySem.Env) (s : Shared) (H : Hp), ES ⟨tn, none⟩ (cxN P w K mg base N qual st f cdv A outer s H) (fun _ _ _ _ => False) s1 m1)
    (h2 : ∀ (cdv : Value) (A : Around) (outer : List PySem.Env) (s : Shared) (H : Hp), ES ⟨tn, none⟩ (cxN P w K mg base N qual st f cdv A outer s H) (fun _ _ _ _ => False) s2 m2)
    (hm : ∀ (xs : List D) (y : D) (env : Env) (S : Store), (y = .non ∨ ∃ z, y = .str z) → env = ([D.ins c xs, y] : List D).map some ++ List.replicate (N.length - 2) none → m1 env S = .nx env S ∧ m2 env S = .nx env S) :
    NiOk P w K mg base tn (k + 1) c f fd := by
  intro A outer s H args us ps W S xs y vs Q hr e0 hb r R rl hy hq
  obtain ⟨oc, od, dV, kV, doc, pm, an, cdv, ct, osl, rfl, lk, hcd, _, _⟩ := F.ex
  have KX : K.In s.heap := e0.mod.kin.keeps fun b o e => (e0.bs b o e).1
  have lim : s.heap.NoLimit := e0.mod.nolimit.keeps fun b o e => (e0.bs b o e).1
  have hkind : ∀ y ∈ (["self", "other"] : List Str).zip us, (defScope st).names.lookup y.1 = some .local ∨ ((defScope st).names.lookup y.1 = some .cell ∧ ((cellsFrom (s.heap.objs.size + 1) (defScope st).names []).lookup y.1).isSome = true) := fun ⟨n, v⟩ hy => by
    rcases Sc.par n (List.of_mem_zip hy).1 with q | q
    · exact .inl q
    · exact .inr ⟨q, PySem.W.cellsFrom_some _ _ _ (.inl q)⟩
  refine codeAny_call_function hr.depth (KX _ _ lk) rfl Sc.co Sc.gen rfl (PySem.W.codeRec_of KX hcd) (hb _ _ _ _ ?_)
  refine wpAny_newFunctionEnv_cells Sc.kind hkind fun env he t1 x => ?_
  subst he
  refine ⟨lim.keeps x.toInCall.keep, codeAny_func ?_⟩
  have hl : vs.length = (["self", "other"] : List Str).length := by rw [← rl.length]; rfl
  have I : Inv (cxN P w K mg base N qual st f cdv A outer s H) [] (L2.start N vs) H t1 := inv_start Sc hr.hd e0 hl r x
  have RE : RepE ⟨K, mg, tn, none⟩ none W (([D.ins c xs, y] : List D).map some ++ List.replicate (N.length - 2) none) (L2.start N vs) := repE_start (N := N) rl
  obtain ⟨e1, e2⟩ := hm xs y _ S hy rfl
  rw [hbod]
  have b1 := (h1 cdv A outer s H).run [] t1 (L2.start N vs) H { nx := fun σ' H' => ∃ W', Le W W' ∧ Rel ⟨K, mg, tn, none⟩ W' S H' ∧ RepE ⟨K, mg, tn, none⟩ none W' (([D.ins c xs, y] : List D).map some ++ List.replicate (N.length - 2) none) σ', rt := fun _ _ => False, bk := fun _ _ => False, ct := fun _ _ => False } I
    ⟨W, _, S, R, RE, by rw [e1]; exact fun W' σ' H' l R' RE' => ⟨W', l, R', RE'⟩⟩
  refine wpAny_mono (wpAny_execs_cons (Q := fun fl s' => ∃ H' σ', fl = .ret .notImplemented ∧ Inv (cxN P w K mg base N qual st f cdv A outer s H) [] σ' H' s' ∧ Q H') (thn b1 fun fl s2' q => ?_)) (fun fl s' hs => ?_) fun e s' hs => wpAny_mono hs (fun _ _ z => (show False from z).elim) fun _ _ z => (show False from z).elim
  · cases fl with
    | ret u => obtain ⟨_, _, _, _, _, z⟩ := q; exact z.elim
    | brk => obtain ⟨_, _, _, z⟩ := q; exact z.elim
    | cont => obtain ⟨_, _, _, z⟩ := q; exact z.elim
    | next =>
      obtain ⟨σ2, H2, I2, W2, l2, R2, RE2⟩ := q
      have b2 := (h2 cdv A outer s H).run [] s2' σ2 H2 { nx := fun σ' H' => ∃ W', Le W W' ∧ Rel ⟨K, mg, tn, none⟩ W' S H', rt := fun _ _ => False, bk := fun _ _ => False, ct := fun _ _ => False } I2
        ⟨W2, _, S, R2, RE2, by rw [e2]; exact fun W' σ' H' l R' RE' => ⟨W', l2.trans l, R'⟩⟩
      refine wpAny_execs_cons (thn b2 fun fl s3 q => ?_)
      cases fl with
      | ret u => obtain ⟨_, _, _, _, _, z⟩ := q; exact z.elim
      | brk => obtain ⟨_, _, _, z⟩ := q; exact z.elim
      | cont => obtain ⟨_, _, _, z⟩ := q; exact z.elim
      | next =>
        obtain ⟨σ3, H3, I3, W3, l3, R3⟩ := q
        refine wpAny_execs_cons (wpAny_Return_some ?_)
        exact ld_blt I3 (hgl cdv A outer s H) hmg (u := .notImplemented) (by first | rfl | decide | kernel_rfl) ⟨H3, σ3, rfl, I3, hq W3 H3 l3 R3⟩
  · obtain ⟨H', σ', rfl, J, q⟩ := hs
    exact ⟨rfl, .non, H', J.os, J.bare, J.base, J.hok, rfl, q⟩
end
end Bp


set_option Elab.async false
set_option linter.all false
set_option maxRecDepth 100000
set_option maxHeartbeats 4000000
/-! Bp13: the head's facts, tables from them. -/
namespace Bp
open PySem L2 PyProof.Rows He
theorem cellCk_ok {K : PySem.W.Frag} {cls x : Str} {cc : Addr} (h : cellCk K cls [(x, cc)] = true) : ∃ o, K.lookup cc = some o ∧ o.data = .cell (some (.ref (ga K cls))) := by
  unfold cellCk at h
  dsimp only at h
  split at h
  · rename_i oc1 od1 dc1 os1 lcc
    exact ⟨_, lcc, by rw [of_decide_eq_true h]⟩
  · cases h
theorem fileCk_ok {K : PySem.W.Frag} {file : Str} {v : Value} (h : fileCk K file v = true) : ∃ c o vs tf, v = .ref c ∧ K.lookup c = some o ∧ o.data = .fields vs ∧ vs[2]? = some (Value.str file tf) := by
  cases v with
  | ref c =>
    unfold fileCk at h
    dsimp only at h
    split at h
    · rename_i oc2 od2 vs os2 lc
      split at h
      · rename_i f0 tf hv
        have hf := of_decide_eq_true h
        subst hf
        exact ⟨c, _, vs, tf, rfl, lc, rfl, hv⟩
      · cases h
    · cases h
  | _ => cases h
theorem Fd.funD {K : PySem.W.Frag} {d : Fd} (e : fnA K (d.pl.ad K) = d.val) (c : d.ok K = true) (hs : d.sup = none) : ∃ fd, FunD K d.name d.qual (defArgs d.st) (defBody d.st) (defScope d.st) (d.dvs K) (d.kws K) (d.pl.ad K) fd := by
  obtain ⟨kp, c2⟩ := ba c
  unfold fnA at e
  cases q : K.lookup (d.pl.ad K) with
  | none =>
    rw [q] at c2
    cases c2
  | some o =>
    obtain ⟨oc, od, dt, osl⟩ := o
    rw [q] at c2 e
    cases dt with
    | func fd =>
      obtain ⟨n1, n2, n3, n4, n5, n6, n7, n8, n9, n10, n11, n12, n13, n14, n15⟩ := fd
      have e2 : (some (n1, n2, n3, n4, n5, n6, n7.map (·.1), n15) : FnB) = some (d.name, d.qual, defArgs d.st, .stmts (defBody d.st), defScope d.st, mainGlobals, d.clo, builtinsNs) := e
      simp only [Option.some.injEq, Prod.mk.injEq] at e2
      obtain ⟨h1, h2, h3, h4, h5, h6, h7, h8⟩ := e2
      have h7' : n7 = [] := by
        unfold Fd.clo at h7
        rw [hs] at h7
        exact List.map_eq_nil_iff.mp h7
      subst h1 h2 h3 h4 h5 h6 h7' h8
      have c3 : (PySem.W.codeIn K n13 d.qual && (_ && (dflB K n8 (d.dvs K) && kwdB K n9 (d.kws K)))) = true := c2
      obtain ⟨k1, k2⟩ := ba c3
      obtain ⟨_, k2⟩ := ba k2
      obtain ⟨k3, k4⟩ := ba k2
      exact ⟨_, ⟨oc, od, n8, n9, n10, n11, n12, n13, n14, osl, rfl, q, k1, dflB_ok k3, kwdB_ok k4⟩, kp⟩
    | _ => cases c2
theorem Fd.funS {K : PySem.W.Frag} {d : Fd} {cls file : Str} (e : fnA K (d.pl.ad K) = d.val) (c : d.ok K = true) (hs : d.sup = some (cls, file)) : ∃ fd, FunS K d.name d.qual (defArgs d.st) (defBody d.st) (defScope d.st) (ga K cls) (d.dvs K) (d.kws K) file (d.pl.ad K) fd := by
  obtain ⟨kp, c2⟩ := ba c
  unfold fnA at e
  cases q : K.lookup (d.pl.ad K) with
  | none =>
    rw [q] at c2
    cases c2
  | some o =>
    obtain ⟨oc, od, dt, osl⟩ := o
    rw [q] at c2 e
    cases dt with
    | func fd =>
      obtain ⟨n1, n2, n3, n4, n5, n6, n7, n8, n9, n10, n11, n12, n13, n14, n15⟩ := fd
      have e2 : (some (n1, n2, n3, n4, n5, n6, n7.map (·.1), n15) : FnB) = some (d.name, d.qual, defArgs d.st, .stmts (defBody d.st), defScope d.st, mainGlobals, d.clo, builtinsNs) := e
      simp only [Option.some.injEq, Prod.mk.injEq] at e2
      obtain ⟨h1, h2, h3, h4, h5, h6, h7, h8⟩ := e2
      obtain ⟨cc, h7'⟩ : ∃ cc, n7 = [(("__class__" : Str), cc)] := by
        unfold Fd.clo at h7
        rw [hs] at h7
        cases n7 with
        | nil => cases h7
        | cons a r =>
          obtain ⟨a1, a2⟩ := a
          simp at h7
          obtain ⟨z1, z2⟩ := h7
          subst z1 z2
          exact ⟨a2, rfl⟩
      subst h1 h2 h3 h4 h5 h6 h7' h8
      have c3 : (PySem.W.codeIn K n13 d.qual && (supCk K ⟨d.name, d.qual, defArgs d.st, .stmts (defBody d.st), defScope d.st, mainGlobals, [("__class__", cc)], n8, n9, n10, n11, n12, n13, n14, builtinsNs⟩ d.sup && (dflB K n8 (d.dvs K) && kwdB K n9 (d.kws K)))) = true := c2
      obtain ⟨k1, k2⟩ := ba c3
      obtain ⟨k5, k2⟩ := ba k2
      obtain ⟨k3, k4⟩ := ba k2
      rw [hs] at k5
      obtain ⟨k6, k7⟩ := ba (show (cellCk K cls [("__class__", cc)] && fileCk K file n13) = true from k5)
      obtain ⟨o1, lcc, dcc⟩ := cellCk_ok k6
      obtain ⟨c, o2, vs, tf, hc, lc, dc, hv⟩ := fileCk_ok k7
      subst hc
      exact ⟨_, ⟨oc, od, n8, n9, n10, n11, n12, c, cc, n14, osl, o1, o2, vs, tf, rfl, q, k1, dflB_ok k3, kwdB_ok k4, lcc, dcc, lc, dc, hv⟩, kp⟩
    | _ => cases c2
def obsBG (n : Nat) (ck : PySem.W.Frag → Bool) (fn : List Fd) (g : Addr → Option Obj) : AlB := obsB ck fn (frG g (asD g n))
def hookB (n : Nat) (ck : PySem.W.Frag → Bool) (fn : List Fd) : PySem.W.Hook where
  α := AlB
  obs := fun s => obsBG n ck fn s.heap.get?
  val := fun _ => valB fn
  says := fun _ h => ∃ K : PySem.W.Frag, K.In h ∧ SaysB ck fn K
  of := fun _ _ e => ⟨_, frG_in, e⟩
  keeps := fun _ _ _ ⟨K, hK, c⟩ k => ⟨K, PySem.W.Frag.In.keeps hK k, c⟩
section
variable {cc : PySem.W.Frag → Bool} {fn : List Fd} {K : PySem.W.Frag}
theorem SaysB.ck (c : SaysB cc fn K) : cc K = true := (ba (show (cc K && fn.all fun d => d.ok K) = true from congrArg (fun z : AlB => z.1) c)).1
theorem SaysB.at_ (c : SaysB cc fn K) (i : Nat) {d : Fd} (h : fn[i]? = some d) : fnA K (d.pl.ad K) = d.val ∧ d.ok K = true := by
  have c2 := (ba (show (cc K && fn.all fun d => d.ok K) = true from congrArg (fun z : AlB => z.1) c)).2
  have e : fn.map (fun d => fnA K (d.pl.ad K)) = fn.map Fd.val := congrArg (fun z : AlB => z.2) c
  have h1 : (fn.map (fun d => fnA K (d.pl.ad K)))[i]? = (fn.map Fd.val)[i]? := by rw [e]
  rw [List.getElem?_map, List.getElem?_map, h] at h1
  exact ⟨Option.some.inj h1, List.all_eq_true.mp c2 d (List.mem_of_getElem? h)⟩
theorem SaysB.def_ (c : SaysB cc fn K) (i : Nat) {d : Fd} (h : fn[i]? = some d := by rfl) (hs : d.sup = none := by rfl) : ∃ fd, FunD K d.name d.qual (defArgs d.st) (defBody d.st) (defScope d.st) (d.dvs K) (d.kws K) (d.pl.ad K) fd := Fd.funD (c.at_ i h).1 (c.at_ i h).2 hs
theorem SaysB.defS (c : SaysB cc fn K) (i : Nat) {d : Fd} {cls file : Str} (h : fn[i]? = some d := by rfl) (hs : d.sup = some (cls, file) := by rfl) : ∃ fd, FunS K d.name d.qual (defArgs d.st) (defBody d.st) (defScope d.st) (ga K cls) (d.dvs K) (d.kws K) file (d.pl.ad K) fd := Fd.funS (c.at_ i h).1 (c.at_ i h).2 hs
end
/-! ### static tables -/
def St.tab (d : St) : CT where
  tn := ⟨d.nm, d.fl⟩
  kn := fun c => d.cls.contains c
  meth := fun _ _ => none
  no := fun c m => d.no.contains (c, m)
  one := fun c => d.one.contains c
  ni := fun _ => false
  prop := fun _ _ => none
  isi := fun t c => d.isi.lookup (t, c)
  mkr := fun _ => none
  N := d.N
  exo := fun c => d.exo.contains c
  xm := fun c t => d.xm.lookup (c, t)
  inp := fun c => d.inp.contains c
theorem lookup_of {α β : Type} [BEq α] [LawfulBEq α] {l : List (α × β)} {a : α} {b : β} (h : l.lookup a = some b) : (a, b) ∈ l := by
  induction l with
  | nil => cases h
  | cons q r ih =>
    obtain ⟨x, y⟩ := q
    unfold List.lookup at h
    split at h
    · rename_i e
      cases h
      rw [eq_of_beq e]
      exact List.mem_cons_self
    · exact List.mem_cons_of_mem _ (ih h)
theorem St.fine {d : St} {P : Program} {w : World} {K : PySem.W.Frag} {mg : Str → Option Value} {base h : Heap} {L : Nat} (X : K.In h) (G : h.Ns mainGlobals mg) (c : d.ck K = true) (dn : ∀ k, k < 40 → d.nm k = dnm k) (inj : ((List.range d.N).map d.nm).Nodup)
    (hfl : ∀ c ∈ d.cls, ((d.fl c).map d.nm).Nodup ∧ ∀ f ∈ d.fl c, f < d.N) : d.tab.Ok P w K mg base L := by
  obtain ⟨c1, c⟩ := ba c
  obtain ⟨c2, c⟩ := ba c
  obtain ⟨c3, c⟩ := ba c
  obtain ⟨c4, c⟩ := ba c
  obtain ⟨c5, c⟩ := ba c
  obtain ⟨c6, c7⟩ := ba c
  have gl : ∀ {c : Nat}, d.gl K c = true → mg (d.nm c) = some (.ref (ga K (d.nm c))) := fun h => glo_ok X G h
  have un : ∀ {c : Nat} {C : Addr}, d.gl K c = true → mg (d.nm c) = some (.ref C) → C = ga K (d.nm c) := fun h e => by
    have z := e.symm.trans (gl h)
    cases z
    rfl
  have tv : ∀ {t : Tg} {v : Value}, d.glT K t = true → TV mg ⟨d.nm, d.fl⟩ t v → v = d.tv K t := fun h r => by
    cases r with
    | b n => rfl
    | c c C hc => exact congrArg Value.ref (un h hc)
  refine ⟨dn, fun c hc => ?_, fun c m n g h => (nomatch h), fun c m n g h => (nomatch h), fun c m h C cl => ?_, fun c h C cl => ?_, fun c h => (nomatch h), fun c h => (nomatch h), fun c m g h => (nomatch h), fun c n dfl g h => (nomatch h), inj, fun c hc => (hfl c (List.contains_iff_mem.mp hc)).2, fun c h => ?_, fun c t r h C v hm ht => ?_, fun c h C cl => ?_, fun t c r h v u ht hc => ?_⟩
  · have hm := List.contains_iff_mem.mp hc
    obtain ⟨h1, h2⟩ := ba (List.all_eq_true.mp c1 c hm)
    obtain ⟨h3, h4⟩ := ba h2
    obtain ⟨g1, h4⟩ := ba h4
    obtain ⟨g2, h4⟩ := ba h4
    obtain ⟨g3, h4⟩ := ba h4
    obtain ⟨g4, h4⟩ := ba h4
    obtain ⟨g5, h4⟩ := ba h4
    obtain ⟨g6, g7⟩ := ba h4
    exact ⟨_, gl h1, He.cls_ok h3, g1, of_decide_eq_true g2, of_decide_eq_true g3, (hfl c hm).1, eqO_ok g4, eqO_ok g5, of_decide_eq_true g6, of_decide_eq_true g7⟩
  · obtain ⟨h1, h2⟩ := ba (List.all_eq_true.mp c2 (c, m) (List.contains_iff_mem.mp h))
    rw [un h1 cl.mg]
    exact noat_ok h2
  · obtain ⟨h1, h2⟩ := ba (List.all_eq_true.mp c3 c (List.contains_iff_mem.mp h))
    rw [un h1 cl.mg]
    exact eqO_ok h2
  · obtain ⟨h1, h2⟩ := ba (List.all_eq_true.mp c6 c (List.contains_iff_mem.mp h))
    obtain ⟨h3, h4⟩ := ba h2
    obtain ⟨e1, e2, e3, e4⟩ := exc_ok h3
    obtain ⟨g1, h4⟩ := ba h4
    obtain ⟨g2, h4⟩ := ba h4
    obtain ⟨g3, h4⟩ := ba h4
    obtain ⟨g4, h4⟩ := ba h4
    obtain ⟨g5, h4⟩ := ba h4
    obtain ⟨g6, g7⟩ := ba h4
    exact ⟨_, _, _, _, _, ⟨gl h1, e2, e3, e4, ⟨eqO_ok g1, eqO_ok g2, e3, g3, eqO_ok g4, eqO_ok g5, of_decide_eq_true g6, of_decide_eq_true g7⟩⟩, PySem.F.excBase_ValueError, e1⟩
  · obtain ⟨h1, h2⟩ := ba (List.all_eq_true.mp c7 _ (lookup_of h))
    obtain ⟨h3, h4⟩ := ba h2
    rw [un h1 hm, tv h3 ht]
    exact of_decide_eq_true h4
  · obtain ⟨h1, h2⟩ := ba (List.all_eq_true.mp c4 c (List.contains_iff_mem.mp h))
    rw [un h1 cl.mg]
    exact h2
  · obtain ⟨h1, h2⟩ := ba (List.all_eq_true.mp c5 _ (lookup_of h))
    obtain ⟨h3, h4⟩ := ba h2
    rw [tv h1 ht, tv h3 hc]
    exact of_decide_eq_true h4
end Bp


set_option Elab.async false
set_option linter.all false
set_option maxRecDepth 100000
set_option maxHeartbeats 4000000
/-! Bp14: tables grow by methods, properties, constructors. -/
namespace Bp
open PySem L2 PyProof.Rows He
def CT.am (T : CT) (c m n : Nat) (g : Fn) : CT := { T with meth := fun c' m' => if c' = c ∧ m' = m then some (n, g) else T.meth c' m' }
def CT.ap (T : CT) (c m : Nat) (g : Fn) : CT := { T with prop := fun c' m' => if c' = c ∧ m' = m then some g else T.prop c' m' }
def CT.ak (T : CT) (c n : Nat) (dfl : List D) (g : Fn) : CT := { T with mkr := fun c' => if c' = c then some (n, dfl, g) else T.mkr c' }
def CT.an (T : CT) (c : Nat) : CT := { T with ni := fun c' => if c' = c then true else T.ni c' }
section
variable {T : CT} {P : Program} {w : World} {K : PySem.W.Frag} {mg : Str → Option Value} {base h : Heap} {L L' c m n : Nat} {g : Fn} {x : Str} {fd : FuncData} {ps : List Str}
theorem CT.Ok.mono (h : T.Ok P w K mg base L) (l : L ≤ L') : T.Ok P w K mg base L' :=
  ⟨h.dn, h.cls, fun c m n g e C cl => let ⟨f, fd, ps, a, b, F, d⟩ := h.meth c m n g e C cl; ⟨f, fd, ps, a, b, F.mono l, d⟩, h.mkn, h.no, h.one, fun c e C cl => let ⟨f, fd, a, N, b⟩ := h.ni c e C cl; ⟨f, fd, a, fun A o s H ar us ps W S xs y vs Q hr => N A o s H ar us ps W S xs y vs Q (hr.mono l), b⟩, h.nik,
    fun c m g e => let ⟨k, z⟩ := h.prop c m g e; ⟨k, fun C cl => let ⟨p, ga, fd, ps, a, b, F, d⟩ := z C cl; ⟨p, ga, fd, ps, a, b, F.mono l, d⟩⟩, fun c n dfl g e => let ⟨k, z⟩ := h.mkr c n dfl g e; ⟨k, fun C cl => let ⟨f, fd, ps, dvs, a, b, F, d⟩ := z C cl; ⟨f, fd, ps, dvs, a, b, F.mono l, d⟩⟩, h.inj, h.flN, h.exo, h.xm, h.inp, h.isi⟩
theorem ga_uniq (hg : mg x = some (.ref (ga K x))) {C : Addr} (e : mg x = some (.ref C)) : C = ga K x := by
  have z := e.symm.trans hg
  cases z
  rfl
theorem CT.Ok.am (h : T.Ok P w K mg base L) (hk : T.kn c = true) (hx : T.tn.nm c = x) (hg : mg x = some (.ref (ga K x))) (hM : (Fa.meth x (T.tn.nm m)).ok K = true) (hn : ps.length = n) (F : FnOk P w K mg base (L2.CX P w) L (ma K (ga K x) (T.tn.nm m)) fd ps (spM ⟨K, mg, T.tn, none⟩ n g)) (hb : Binds K fd ps []) :
    (T.am c m n g).Ok P w K mg base L := by
  refine ⟨h.dn, h.cls, fun c' m' n' g' e C cl => ?_, fun c' m' n' g' e => ?_, h.no, h.one, h.ni, h.nik, h.prop, h.mkr, h.inj, h.flN, h.exo, h.xm, h.inp, h.isi⟩
  · have e' : (if c' = c ∧ m' = m then some (n, g) else T.meth c' m') = some (n', g') := e
    split at e'
    · rename_i hc
      obtain ⟨rfl, rfl⟩ := hc
      cases e'
      have hC : C = ga K x := ga_uniq hg (by rw [← hx]; exact cl.mg)
      subst hC
      exact ⟨_, fd, ps, meth_ok hM, hn, F, hb⟩
    · exact h.meth c' m' n' g' e' C cl
  · have e' : (if c' = c ∧ m' = m then some (n, g) else T.meth c' m') = some (n', g') := e
    split at e'
    · rename_i hc
      rw [hc.1]
      exact hk
    · exact h.mkn c' m' n' g' e'
theorem propCk_ok {m : Str} (h : propCk K x m = true) : PropOf K (ga K x) m (ma K (ga K x) m) ((Pl.p x m).ad K) := by
  obtain ⟨h1, h⟩ := ba h
  obtain ⟨h2, h⟩ := ba h
  obtain ⟨h3, h4⟩ := ba h
  refine ⟨eqO_ok h1, eqO_ok h2, of_decide_eq_true h3, ?_⟩
  unfold Pl.ad
  dsimp only
  cases e : PySem.W.recIn K (ma K (ga K x) m) "property" with
  | none => rw [e] at h4; cases h4
  | some l =>
    rw [e] at h4
    cases l with
    | nil => cases h4
    | cons v r =>
      cases v with
      | ref z => exact ⟨r, rfl⟩
      | _ => cases h4
theorem CT.Ok.ap (h : T.Ok P w K mg base L) (hk : T.kn c = true) (hx : T.tn.nm c = x) (hg : mg x = some (.ref (ga K x))) (hM : propCk K x (T.tn.nm m) = true) (hn : ps.length = 1) (F : FnOk P w K mg base (L2.CX P w) L ((Pl.p x (T.tn.nm m)).ad K) fd ps (spM ⟨K, mg, T.tn, none⟩ 1 g)) (hb : Binds K fd ps []) :
    (T.ap c m g).Ok P w K mg base L := by
  refine ⟨h.dn, h.cls, h.meth, h.mkn, h.no, h.one, h.ni, h.nik, fun c' m' g' e => ?_, h.mkr, h.inj, h.flN, h.exo, h.xm, h.inp, h.isi⟩
  have e' : (if c' = c ∧ m' = m then some g else T.prop c' m') = some g' := e
  split at e'
  · rename_i hc
    obtain ⟨rfl, rfl⟩ := hc
    cases e'
    refine ⟨hk, fun C cl => ?_⟩
    have hC : C = ga K x := ga_uniq hg (by rw [← hx]; exact cl.mg)
    subst hC
    exact ⟨_, _, fd, ps, propCk_ok hM, hn, F, hb⟩
  · exact h.prop c' m' g' e'
theorem CT.Ok.ak {dfl : List D} {dvs : List V} (h : T.Ok P w K mg base L) (hk : T.kn c = true) (hx : T.tn.nm c = x) (hg : mg x = some (.ref (ga K x))) (hM : (Fa.mkr x).ok K = true) (hn : ps.length = n) (F : FnOk P w K mg base (L2.CX P w) L (ma K (ga K x) "__init__") fd ps (spM ⟨K, mg, T.tn, none⟩ n g))
    (hd : ∀ W, RepL ⟨K, mg, T.tn, none⟩ W dfl dvs) (hb : ∀ j, j ≤ dfl.length → ∃ dus, Vals (dvs.drop j) dus ∧ Binds K fd ps dus) : (T.ak c n dfl g).Ok P w K mg base L := by
  refine ⟨h.dn, h.cls, h.meth, h.mkn, h.no, h.one, h.ni, h.nik, h.prop, fun c' n' d' g' e => ?_, h.inj, h.flN, h.exo, h.xm, h.inp, h.isi⟩
  have e' : (if c' = c then some (n, dfl, g) else T.mkr c') = some (n', d', g') := e
  split at e'
  · rename_i hc
    subst hc
    cases e'
    refine ⟨hk, fun C cl => ?_⟩
    have hC : C = ga K x := ga_uniq hg (by rw [← hx]; exact cl.mg)
    subst hC
    exact ⟨_, fd, ps, dvs, mkr_ok hM, hn, F, hd, hb⟩
  · exact h.mkr c' n' d' g' e'
theorem CT.Ok.an (h : T.Ok P w K mg base L) (hk : T.kn c = true) (hx : T.tn.nm c = x) (hg : mg x = some (.ref (ga K x))) (hM : (Fa.meth x "__eq__").ok K = true) (N : NiOk P w K mg base T.tn L c (ma K (ga K x) "__eq__") fd) (hb : Binds K fd ["self", "other"] []) : (T.an c).Ok P w K mg base L := by
  refine ⟨h.dn, h.cls, h.meth, h.mkn, h.no, h.one, fun c' e C cl => ?_, fun c' e => ?_, h.prop, h.mkr, h.inj, h.flN, h.exo, h.xm, h.inp, h.isi⟩
  · have e' : (if c' = c then true else T.ni c') = true := e
    split at e'
    · rename_i hc
      subst hc
      have hC : C = ga K x := ga_uniq hg (by rw [← hx]; exact cl.mg)
      subst hC
      exact ⟨_, fd, meth_ok hM, N, hb⟩
    · exact h.ni c' e' C cl
  · have e' : (if c' = c then true else T.ni c') = true := e
    split at e'
    · rename_i hc
      rw [hc]
      exact hk
    · exact h.nik c' e'
theorem DefOk.of {tn : Tn} {x : Str} {n : Nat} {g : Fn} {f : Addr} {dvs : List V} {kws : List (Str × V)} {qual : Str} {st : Stmt} {y : Str} (D0 : FunD K y qual (defArgs st) (defBody st) (defScope st) dvs kws f fd) (hg : mg x = some (.ref f)) (hn : ps.length = n) (F : FnOk P w K mg base (L2.CX P w) L f fd ps (spM ⟨K, mg, tn, none⟩ n g)) (hb : Binds K fd ps []) : DefOk P w K mg base tn L x n g :=
  ⟨f, fd, ps, hn, F, hg, D0.kp, hb⟩
end
theorem ex_notv {fl : Pm} {X : Cx} {Wx : WX} {a : Expr} {ma : ME} {pos : Pos} (ha : EX fl X Wx a ma) : EX fl X Wx (.UnaryOp .Not a pos) (mUn notD ma) := PE.imp (pe_not ha) fun σ H Q ⟨W, env, S, R, RE, q⟩ => ⟨W, env, S, R, RE, Ev.imp (Ev.seq q) fun v H1 ⟨W1, d1, S1, l1, R1, ra, q1⟩ => by
  cases ra with
  | bl b => exact ⟨b, rfl, q1 W1 _ H1 (.refl W1) R1 (.bl _)⟩
  | _ => exact (show False from q1).elim⟩
def fuelN (i : Nat) : Env → Store → Nat := fun env _ => match env[i]? with
  | some (some (D.int b)) => b.natAbs + 2
  | _ => 1
theorem es_bad {fl : Pm} {X : Cx} {Wx : WX} {st : Stmt} : ES fl X Wx st (fun _ _ => .bad) := ⟨fun _ _ _ _ _ _ ⟨_, _, _, _, _, q⟩ => (show False from q).elim⟩
end Bp


set_option Elab.async false
set_option linter.all false
set_option maxRecDepth 100000
set_option maxHeartbeats 4000000
/-! Bp15: the end of a law. -/
namespace Bp
open PySem L2 PyProof.Rows
theorem walk_own {l : PySem.W.OpenLaw} {n k : Nat} {q : Program} {loose : List Str} {XP : (Str → Option Value) → Heap → Prop} {YP : World → Heap → Prop} {d : DefRec} {x : Str}
    (hn : l.most = some n) (hn2 : n ≤ sizeLine) (hdf : d.params.defaults = []) (hr : Room k callerA)
    (F : ∀ (w : World) (mg : Str → Option Value) (fa : Addr) (h : Heap), YP w h → h.Ns mainGlobals mg → mg d.name = some (.ref fa) →
      ∃ (K : PySem.W.Frag) (fd : FuncData) (sp : Sp), K.In h ∧ (∀ (s : Shared) (u : Value), BindsTo s fd ⟨[u], []⟩ [(x, u)]) ∧
        (∀ (H : Hp) (a : Addr) (ns : List Int), ns.length ≤ n → Only H → SqL K H a (ns.map V.int) → sp [.ref a] H (fun v _ => v = .bl true) fun _ _ _ => False) ∧
        ∀ base : Heap, K.In base → base.Ns mainGlobals mg → FnOk l.prog w K mg base (L2.CX l.prog w) k fa fd [x] sp) :
    PySem.W.WalkO q loose XP YP l.row.toRowW d [] (fun f vs => PySem.call f vs) := by
  refine Att.attach_call hn hdf fun w s₀ s₁ mg mb fa o pm cd doc a vs ns G Y ho hd hcd hmg hobj hints hlen hg => ?_
  obtain ⟨K, fd, sp, KX, hb, hsp, hF⟩ := F w mg fa _ Y G.T.g hmg
  refine law_call KX G.T.g G.T.b G.T.builtins G.T.nolimit hg hobj hints (Nat.le_trans hlen hn2) hr hF hb (fun H hO hS => hsp H a ns hlen hO hS) fun H e s' h => ?_
  obtain ⟨_, _, _, _, _, _, _, _, _, _, _, _, z⟩ := h
  exact z.elim
end Bp


set_option Elab.async false
set_option linter.all false
set_option maxRecDepth 100000
set_option maxHeartbeats 4000000
/-! Bp16: list comprehensions; zip and enumerate as walks. -/
namespace Bp
open PySem L2 PyProof.Rows
def wipeE (env : Env) : List Nat → Env
  | [] => env
  | v :: vs => (wipeE env vs).set v none
def lcG (g : MG) (tt : MT) (te : ME) (own : List Nat) (n : Nat) (w : Wk) : Nat → Nat → Env → Store → Option Store
  | 0, i, env, S => (match w.it S i with
    | some none => some S
    | _ => none)
  | k + 1, i, env, S => match w.it S i with
    | none => none
    | some none => some S
    | some (some d) => (match g d (wipeE env own) S with
      | .nx env1 S1 => (match tt env1 S1 with
        | .ok true S2 => (match te env1 S2 with
          | .ok y S3 => (match S3[n]? with
            | some (.lst acc) => if acc.length < sizeLine then lcG g tt te own n w k (i + 1) env (S3.set n (.lst (acc ++ [y]))) else none
            | _ => none)
          | _ => none)
        | .ok false S2 => lcG g tt te own n w k (i + 1) env S2
        | _ => none)
      | _ => none)
def mLC (it : Env → Store → Res Wk) (g : MG) (tt : MT) (te : ME) (own : List Nat) : ME := fun env S => (it env S).bind fun w S1 => match lcG g tt te own S1.length w (w.len (S1 ++ [.lst []])) 0 env (S1 ++ [.lst []]) with
  | some S2 => .ok (.ref S1.length) S2
  | none => .bad
def mYes : MT := fun _ S => .ok true S
section
variable {fl : Pm} {X : Cx} {Wx : WX} {a b c e : Expr} {es : List Expr} {ma mb me : ME} {ta tb : MT} {pos : Pos}
theorem RepE.wipe {G : Gs} {x : Xh} {W : Wd} {env : Env} {σ : L2.St} (r : RepE G x W env σ) : ∀ vs : List Nat, RepE G x W (wipeE env vs) (L2.wipe σ vs)
  | [] => r
  | v :: vs => (RepE.wipe r vs).unset v none
structure LT (K : PySem.W.Frag) (own : List Nat) (t : TG) (g : MG) : Prop where
  st : ∀ (d : D) (env env1 : Env) (S S1 : Store), g d env S = .nx env1 S1 → S1 = S
  run : ∀ (G : Gs) (x : Xh) (W : Wd) (d : D) (v : V) (env env1 : Env) (S S1 : Store) (σ : L2.St) (H : Hp) (Q : L2.St → Hp → Prop), G.K = K → Rel G W S H → RepE G x W env σ → RepV G W d v →
    g d env S = .nx env1 S1 → (∀ σ1, RepE G x W env1 σ1 → L2.wipe σ1 own = L2.wipe σ own → Q σ1 H) → t v σ H Q
def ETs (fl : Pm) (X : Cx) (Wx : WX) (ifs : List Expr) (m : MT) : Prop := PTs X ifs (TB (gx X fl) fl.x Wx m)
abbrev Bk (X : Cx) (s : Shared) (H : Hp) (scope : Scope) (C : Addr) (cl : List (Str × Addr)) (fp : List Addr) : Cx := X.blk s H scope (compEnvC scope cl C X.env) fp
abbrev noW : WX := fun _ _ _ _ => False
theorem Cxt.blk {k : Nat} (C0 : Cxt fl X Wx k) (s : Shared) (H : Hp) (scope : Scope) (C : Addr) (cl : List (Str × Addr)) (fp : List Addr) : Cxt fl (Bk X s H scope C cl fp) noW k :=
  ⟨C0.fx, C0.hr, fun u s' ⟨a, B, sI, pins, σ, H, cls, d, e, I, nb, up, sky, na, os, ag, w⟩ => w, PassesOwn.never, C0.calm⟩
/-! ### zip, enumerate -/
def wkD (d : D) (S : Store) : Option Wk := match d with
  | .tup xs => some (.items xs)
  | .rl xs => some (.items xs)
  | .ref n => (match S[n]? with
    | some (.lst _) => some (.at_ n)
    | _ => none)
  | _ => none
inductive Kd where
  | l | t
  deriving DecidableEq
def kdD : D → Kd
  | .tup _ => .t
  | _ => .l
def zipD (ds : List D) (S : Store) : Res Wk := match ds with
  | [a, b] => (match wkD a S, wkD b S with
    | some x, some y => .ok (.zip x y) S
    | _, _ => .bad)
  | _ => .bad
def enumD (ds : List D) (S : Store) : Res Wk := match ds with
  | [a] => (match wkD a S with
    | some x => .ok (.enum x) S
    | _ => .bad)
  | _ => .bad
def iZipM (m1 m2 : ME) : Env → Store → Res Wk := fun env S => (mArgs [m1, m2] env S).bind zipD
def iEnumM (m : ME) : Env → Store → Res Wk := fun env S => (mArgs [m] env S).bind enumD
end
end Bp


set_option Elab.async false
set_option linter.all false
set_option maxRecDepth 100000
set_option maxHeartbeats 4000000
/-! Bp17: defs of a class that say super(). -/
namespace Bp
open PySem L2 PyProof.Rows NdefX
structure SupE (X : Cx) (dcls : Addr) (slf : Str) : Prop where
  ex : ∃ (f cda : Addr) (of oc : Obj) (fd : FuncData) (ar : Arg) (vs : Array Value) (file : Str) (tf : Tok), X.env.func = some f ∧ X.K.lookup f = some of ∧ of.data = .func fd ∧ (fd.params.posonlyargs ++ fd.params.args).head? = some ar ∧ ar.arg = slf ∧
    X.env.code = .ref cda ∧ X.K.lookup cda = some oc ∧ oc.data = .fields vs ∧ vs[2]? = some (.str file tf) ∧ ((X.prog.main.file : Str) == file) = true
  cell : ∃ (cc : Addr) (oC : Obj), X.env.cells.lookup ("__class__" : Str) = some cc ∧ X.K.lookup cc = some oC ∧ oC.data = .cell (some (.ref dcls))
  kc : X.env.kindOf "__class__" = some .free
  top : (X.prog.main.scope.names.lookup ("super" : Str)).isSome = false
structure PSA (X : Cx) (cd : Code) (sts : List Stmt) (t : TS) : Prop where
  run : ∀ (pins : List (Addr × Obj)) (s : Shared) (σ : L2.St) (H : Hp) (D : Ends), Inv X pins σ H s → t D σ H → _root_.PySem.wpAt (model X.prog X.w) X.A cd (execs sts X.env) (fun fl s' => SP X pins D fl s') X.xe s
structure PA1 (X : Cx) (cd : Code) (st : Stmt) (t : TS) : Prop where
  run : ∀ (pins : List (Addr × Obj)) (s : Shared) (σ : L2.St) (H : Hp) (D : Ends), Inv X pins σ H s → t D σ H → _root_.PySem.wpAt (model X.prog X.w) X.A cd (exec st X.env) (fun fl s' => SP X pins D fl s') X.xe s
structure PEA (X : Cx) (cd : Code) (e : Expr) (t : TE) : Prop where
  run : ∀ (pins : List (Addr × Obj)) (s : Shared) (σ : L2.St) (H : Hp) (Q : VK), Inv X pins σ H s → t σ H Q → _root_.PySem.wpAt (model X.prog X.w) X.A cd (eval e X.env) (EP X pins σ Q) X.xe s
section
variable {fl : Pm} {X : Cx} {Wx : WX} {cd : Code} {st : Stmt} {sts : List Stmt} {m m1 m2 : MS} {e : Expr} {me : ME} {pos : Pos}
def ESA (fl : Pm) (X : Cx) (Wx : WX) (cd : Code) (sts : List Stmt) (m : MS) : Prop := PSA X cd sts (TSm (gx X fl) fl.x Wx m)
def ES1 (fl : Pm) (X : Cx) (Wx : WX) (cd : Code) (st : Stmt) (m : MS) : Prop := PA1 X cd st (TSm (gx X fl) fl.x Wx m)
def EXA (fl : Pm) (X : Cx) (Wx : WX) (cd : Code) (e : Expr) (m : ME) : Prop := PEA X cd e (T (gx X fl) fl.x Wx m)
end
/-! ### super().m(..) -/
def isCls (c : Nat) (d : D) (S : Store) : Bool := match d with
  | .ins c' _ => decide (c' = c)
  | .ref n => (match S[n]? with
    | some (.obj c' _) => decide (c' = c)
    | _ => false)
  | _ => false
def mSup (c : Nat) (g : Fn) (ms : List ME) : ME := fun env S => (mVar 0 env S).bind fun o S1 => if isCls c o S1 = true then (mArgs ms env S1).bind fun vs S2 => g (o :: vs) S2 else .bad
section
variable {fl : Pm} {X : Cx} {Wx : WX} {cd : Code} {pos : Pos} {k L n : Nat}
theorem boot_super' : bootBuiltins "super" = some (.type "super") := by kernel_rfl
end
/-! ### a def that says super() -/
abbrev nfS (x qual : Str) (st : Stmt) (cc c : Addr) : NF := ⟨x, qual, defArgs st, defBody st, defScope st, [("__class__", cc)], c⟩
abbrev cxs (P : Program) (w : World) (K : PySem.W.Frag) (mg : Str → Option Value) (base : Heap) (N : List Str) (x qual : Str) (st : Stmt) (cc c f : Addr) (A : Around) (outer : List PySem.Env) (s : Shared) (H : Hp) (E : XK) : Cx :=
  ncx (L2.CX P w) P w K mg base N (nfS x qual st cc c) f A outer s H E
section
variable {P : Program} {w : World} {K : PySem.W.Frag} {mg : Str → Option Value} {base : Heap}
end
end Bp


set_option Elab.async false
set_option linter.all false
set_option maxRecDepth 100000
set_option maxHeartbeats 4000000
/-! Bp18: constants of the module and of classes, in, o[i] = v, chains, tuple(..), list(..), min, max. -/
namespace Bp
open PySem L2 PyProof.Rows He
/-! ### constants -/
theorem conB_ok {d : D} {u : Value} (h : conB d u = true) : ∃ v, RelV v u ∧ ∀ (G : Gs) (W : Wd), RepV G W d v := by
  cases d with
  | non =>
    cases u with
    | none => exact ⟨.non, rfl, fun G W => .non⟩
    | _ => cases h
  | bl b =>
    cases u with
    | bool c =>
      have e : b = c := eq_of_beq h
      subst e
      exact ⟨.bl b, rfl, fun G W => .bl b⟩
    | _ => cases h
  | int i =>
    cases u with
    | int j t =>
      have e : j = i := of_decide_eq_true h
      subst e
      exact ⟨.int j, ⟨t, rfl⟩, fun G W => .int j⟩
    | _ => cases h
  | str z =>
    cases u with
    | str y t =>
      have e : y = z := of_decide_eq_true h
      subst e
      exact ⟨.str y, ⟨t, rfl⟩, fun G W => .str y⟩
    | _ => cases h
  | _ => cases u <;> cases h
theorem conL_ok : ∀ {ds : List D} {us : List Value}, conL ds us = true → ∃ vs, Vals vs us ∧ ∀ (G : Gs) (W : Wd), RepL G W ds vs
  | [], [], _ => ⟨[], .nil, fun G W => .nil⟩
  | d :: ds, u :: us, h => by
    obtain ⟨h1, h2⟩ := ba h
    obtain ⟨v, r, a⟩ := conB_ok h1
    obtain ⟨vs, rs, as⟩ := conL_ok h2
    exact ⟨v :: vs, .cons r rs, fun G W => .cons (a G W) (as G W)⟩
  | [], _ :: _, h => by cases h
  | _ :: _, [], h => by cases h
theorem conT_ok {K : PySem.W.Frag} {d : D} {u : Value} (h : conT K d u = true) : ∃ v, RelV v u ∧ ∀ (G : Gs) (W : Wd), G.K = K → RepV G W d v := by
  have base : conB d u = true → ∃ v, RelV v u ∧ ∀ (G : Gs) (W : Wd), G.K = K → RepV G W d v := fun h => by
    obtain ⟨v, r, a⟩ := conB_ok h
    exact ⟨v, r, fun G W _ => a G W⟩
  cases d with
  | tup xs =>
    unfold conT at h
    dsimp only at h
    split at h
    · rename_i a
      split at h
      · rename_i oc od its n sl hl
        obtain ⟨h1, h2⟩ := ba h
        obtain ⟨h2, h3⟩ := ba h2
        obtain ⟨vs, rs, as⟩ := conL_ok h3
        refine ⟨.ref a, rfl, fun G W e => .tup xs vs a (.inr ⟨_, its, n, by rw [e]; exact hl, of_decide_eq_true h1, rfl, of_decide_eq_true h2, rs⟩) (as G W)⟩
      · cases h
    · cases h
  | _ => exact base h
def GC (K : PySem.W.Frag) (mg : Str → Option Value) (x : Str) (d : D) : Prop := ∃ u, mg x = some u ∧ conT K d u = true
section
variable {fl : Pm} {X : Cx} {Wx : WX} {T : CT} {L k : Nat} {x : Str} {p pos pos' apos cpos : Pos} {e a b c o i : Expr} {es : List Expr} {me mo mi ma mb mc : ME} {ms : List ME} {id : String} {g : Fn}
theorem ex_ccon {d : D} {cn f : Str} (h : ccCk X.K cn f d = true) (hg : Gl X cn) (hm : X.mg cn = some (.ref (ga X.K cn))) (hd : (cn == ("__debug__" : Str)) = false := by decide)
    (hb : attributeBase (.Name cn p) f X.env (eval (.Name cn p) X.env) = eval (.Name cn p) X.env := by rfl) : EX fl X Wx (.Attribute (.Name cn p) f pos) (mC d) := by
  obtain ⟨h1, h2⟩ := ba h
  split at h2
  case h_2 => cases h2
  rename_i u hu
  obtain ⟨v, r, a⟩ := conT_ok h2
  have hr := h1
  simp only [PySem.W.readsIn, Bool.and_eq_true, beq_iff_eq] at hr
  obtain ⟨⟨⟨⟨z1, z2⟩, z3⟩, z4⟩, z5⟩ := hr
  have hga : PySem.W.specialIn X.K (.ref (ga X.K cn)) "__getattribute__" = some (some (.builtin "type.__getattribute__")) := by
    unfold PySem.W.specialIn
    first | (rw [z2]; exact z3) | (simp only [z2]; exact z3)
  refine PE.imp (ClX.pe_cval (pe_glob (pos := p) hg hm (v := .ref (ga X.K cn)) rfl hd) hb) fun σ H Q ⟨W, env, S, R, RE, q⟩ => ?_
  exact ⟨ga X.K cn, .type "type", v, u, rfl, ⟨h1, hga⟩, ⟨hu, r⟩, q W v H (.refl W) R (a _ W rfl)⟩
/-! ### in -/
def toV : D → V
  | .bl b => .bl b
  | .int i => .int i
  | .str z => .str z
  | _ => .non
def flatD : D → Bool
  | .non => true
  | .bl _ => true
  | .int _ => true
  | .str _ => true
  | _ => false
theorem flatD_ok {G : Gs} {W : Wd} {d : D} {v : V} (r : RepV G W d v) (h : flatD d = true) : v = toV d ∧ flatV v = true := by
  cases r with
  | non => exact ⟨rfl, rfl⟩
  | bl b => exact ⟨rfl, rfl⟩
  | int i => exact ⟨rfl, rfl⟩
  | str z => exact ⟨rfl, rfl⟩
  | _ => cases h
theorem flatL_ok {G : Gs} {W : Wd} : ∀ {ds : List D} {vs : List V}, RepL G W ds vs → ds.all flatD = true → vs = ds.map toV ∧ vs.all flatV = true
  | _, _, .nil, _ => ⟨rfl, rfl⟩
  | d :: ds, v :: vs, .cons r t, h => by
    rw [List.all_cons, Bool.and_eq_true] at h
    obtain ⟨e1, f1⟩ := flatD_ok r h.1
    obtain ⟨e2, f2⟩ := flatL_ok t h.2
    subst e1 e2
    exact ⟨rfl, by rw [List.all_cons, f1, f2]; rfl⟩
def inD (neg : Bool) (x y : D) (S : Store) : Res D := match y with
  | .str z => (match x with
    | .str w => (match w.cps.toList with
      | [c] => .ok (.bl (if neg then !decide (c ∈ z.cps.toList) else decide (c ∈ z.cps.toList))) S
      | _ => .bad)
    | _ => .bad)
  | y => (match seqD y S with
    | some ys => if flatD x = true ∧ ys.all flatD = true then .ok (.bl (if neg then !inV (toV x) (ys.map toV) else inV (toV x) (ys.map toV))) S else .bad
    | none => .bad)
theorem str_one {w : Str} {c : Nat} (h : w.cps.toList = [c]) : w = ⟨#[c]⟩ := by
  cases w with
  | mk a => 
    have : a = #[c] := by
      rw [← Array.toArray_toList (xs := a), h]
    rw [this]
theorem bin_inN (neg : Bool) : Bin2 fl X Wx (compareOp (if neg then .NotIn else .In)) (inD neg) := by
  intro pins s σ H x y v u W a b S Q I rx ry R ra rb q
  have go : (∃ (c : Nat) (z : Str), x = .str ⟨#[c]⟩ ∧ y = .str z ∧ Q (.bl (if neg then !decide (c ∈ z.cps.toList) else decide (c ∈ z.cps.toList))) H) ∨ rIn X.K neg x y H Q := by
    unfold inD at q
    split at q
    · rename_i z
      split at q
      · rename_i w
        split at q
        · rename_i c hw
          cases ra; cases rb
          obtain rfl := str_one hw
          exact .inl ⟨c, z, rfl, rfl, q W _ H (.refl W) R (.bl _)⟩
        · exact q.elim
      · exact q.elim
    · split at q
      · rename_i ys hy
        split at q
        · rename_i hf
          obtain ⟨p, vs, rfl, hsq, rv⟩ := seq_ok R rb hy
          obtain ⟨e1, f1⟩ := flatD_ok ra hf.1
          obtain ⟨e2, f2⟩ := flatL_ok rv hf.2
          subst e1 e2
          exact .inr ⟨p, _, rfl, hsq, f1, f2, q W _ H (.refl W) R (.bl _)⟩
        · exact q.elim
      · exact q.elim
  cases neg with
  | false =>
    rcases go with ⟨c, z, e1, e2, q'⟩ | q'
    · exact op_in_sign pins s σ H x y v u Q I rx ry ⟨c, z, e1, e2, q'⟩
    · exact op_in_seq pins s σ H x y v u Q I rx ry q'
  | true =>
    rcases go with ⟨c, z, e1, e2, q'⟩ | q'
    · exact op_notIn_sign pins s σ H x y v u Q I rx ry ⟨c, z, e1, e2, q'⟩
    · exact op_notIn_seq pins s σ H x y v u Q I rx ry q'
theorem bin_notin : Bin2 fl X Wx (compareOp .NotIn) (inD true) := bin_inN true
/-! ### o[i] = v -/
def keyD : D → Option Key
  | .int i => some (.inl i)
  | .str z => some (.inr z)
  | _ => none
def valD (kvs : List (Key × D)) (k : Key) : Option D := (kvs.find? fun kv => decide (kv.1 = k)).map (·.2)
def putKD (kvs : List (Key × D)) (k : Key) (v : D) : List (Key × D) :=
  if (kvs.any fun kv => decide (kv.1 = k)) = true then kvs.map (fun kv => if kv.1 = k then (kv.1, v) else kv) else kvs ++ [(k, v)]
def putIx (d i v : D) (env : Env) (S : Store) : RS := match d with
  | .ref n => (match S[n]? with
    | some (.lst xs) => (match i with
      | .int k => (match ixN xs.length k with
        | some j => .nx env (S.set n (.lst (xs.set j v)))
        | none => .bad)
      | _ => .bad)
    | some (.dic kvs) => (match keyD i with
      | some k => if kvs.length < sizeLine then .nx env (S.set n (.dic (putKD kvs k v))) else .bad
      | none => .bad)
    | _ => .bad)
  | _ => .bad
def gSet (mo mi : ME) : MG := fun v env S => onR (mo env S) env fun d S1 => onR (mi env S1) env fun i S2 => putIx d i v env S2
/-! ### a op b op c -/
def mChain (f f' : D → D → Store → Res D) (ma mb mc : ME) : ME := fun env S => (ma env S).bind fun a S1 => (mb env S1).bind fun b S2 => (f a b S2).bind fun r S3 => match r with
  | .bl true => (mc env S3).bind fun c S4 => f' b c S4
  | .bl false => .ok (.bl false) S3
  | _ => .bad
/-! ### dicts -/
def dgD (d i : D) (S : Store) : Res D := match d with
  | .rk ks vs => (match keyD i with
    | some k => (match valD (ks.zip vs) k with
      | some v => .ok v S
      | none => .bad)
    | none => .bad)
  | .ref n => (match S[n]? with
    | some (.dic kvs) => (match keyD i with
      | some k => (match valD kvs k with
        | some v => .ok v S
        | none => .bad)
      | none => .bad)
    | _ => .bad)
  | _ => .bad
end
end Bp


set_option Elab.async false
set_option linter.all false
set_option maxRecDepth 100000
set_option maxHeartbeats 4000000
/-! Bp19: tuple(..), list(..), min, max; C(.., k = v, ..). -/
namespace Bp
open PySem L2 PyProof.Rows He
section
variable {fl : Pm} {X : Cx} {Wx : WX} {T : CT} {L k : Nat} {x : Str} {p pos pos' apos cpos : Pos} {e a b c o i : Expr} {es : List Expr} {me mo mi ma mb mc : ME} {ms : List ME} {id : String} {g : Fn}
def tupleD : Fn := fun ds S => match ds with
  | [d] => (match seqD d S with
    | some xs => .ok (.tup xs) S
    | none => .bad)
  | _ => .bad
def listD : Fn := fun ds S => match ds with
  | [d] => (match seqD d S with
    | some xs => .ok (.ref S.length) (S ++ [.lst xs])
    | none => .bad)
  | _ => .bad
def minD : Fn := fun ds S => match ds with
  | [.int i, .int j] => .ok (.int (if j < i then j else i)) S
  | _ => .bad
def maxD : Fn := fun ds S => match ds with
  | [.int i, .int j] => .ok (.int (if j > i then j else i)) S
  | _ => .bad
/-! ### keywords -/
def EK (fl : Pm) (X : Cx) (Wx : WX) (kws : List Keyword) (ms : List ME) : Prop := PK X kws (TL (gx X fl) fl.x Wx (mArgs ms))
variable {kws : List Keyword} {nm : Option Str} {kpos : Pos} {ks : List Str}
theorem PK.imp {t t' : TA} (h : PK X kws t) (c : ∀ σ H Q, t' σ H Q → t σ H Q) : PK X kws t' := ⟨fun pos pins s σ H Q I q => h.run pos pins s σ H Q I (c σ H Q q)⟩
structure KwMk (P : Program) (w : World) (K : PySem.W.Frag) (mg : Str → Option Value) (base : Heap) (tn : Tn) (L : Nat) (c n : Nat) (ks : List Str) (N : Nat) (arr : List D → List D → List D) (g : Fn) : Prop where
  ex : ∃ (C f : Addr) (fd : FuncData) (ps : List Str) (gg : List Value → List Value → List Value) (gV : List V → List V → List V), mg (tn.nm c) = some (.ref C) ∧ Mk K C f ∧ FnOk P w K mg base (L2.CX P w) L f fd ps (spM ⟨K, mg, tn, none⟩ N g) ∧ KBn K fd ps (n + 1) ks gg gV ∧
    (∀ (W : Wd) (ds es : List D) (vs zs : List V), RepL ⟨K, mg, tn, none⟩ W ds vs → RepL ⟨K, mg, tn, none⟩ W es zs → ds.length = n + 1 → es.length = ks.length → RepL ⟨K, mg, tn, none⟩ W (arr ds es) (gV vs zs) ∧ (gV vs zs).length = N)
noncomputable def newKD (T : CT) (c n m : Nat) (arr : List D → List D → List D) (g : Fn) (ds es : List D) (S : Store) : Res D := if ds.length = n ∧ es.length = m then newFin T c S (g (arr (.ref S.length :: ds) es) (S ++ [.obj c []])) else .bad
noncomputable def mNewK (T : CT) (c n m : Nat) (arr : List D → List D → List D) (g : Fn) (ms ks : List ME) : ME := fun env S => (mArgs ms env S).bind fun ds S1 => (mArgs ks env S1).bind fun es S2 => newKD T c n m arr g ds es S2
end
end Bp


set_option Elab.async false
set_option linter.all false
set_option maxRecDepth 100000
set_option maxHeartbeats 4000000
/-! Bp20: {k: v, ..}. -/
namespace Bp
open PySem L2 PyProof.Rows He
def mPairs : List (ME × ME) → Env → Store → Res (List (D × D))
  | [], _, S => .ok [] S
  | p :: r, env, S => (p.1 env S).bind fun a S1 => (p.2 env S1).bind fun b S2 => (mPairs r env S2).bind fun ps S3 => .ok ((a, b) :: ps) S3
def keysD : List (D × D) → Option (List (Key × D))
  | [] => some []
  | p :: r => match keyD p.1, keysD r with
    | some k, some l => some ((k, p.2) :: l)
    | _, _ => none
def mergeD (kvs more : List (Key × D)) : List (Key × D) := more.foldl (fun acc kv => putKD acc kv.1 kv.2) kvs
def dispFin (n : Nat) (ps : List (D × D)) (S : Store) : Res D := match S[n]? with
  | some (.dic []) => (match keysD ps with
    | some kvs => if kvs.length ≤ 15 then .ok (.ref n) (S.set n (.dic (mergeD [] kvs))) else .bad
    | none => .bad)
  | _ => .bad
def mDisp (ks : List (ME × ME)) : ME := fun env S => (mPairs ks env (S ++ [.dic []])).bind fun ps S2 => dispFin S.length ps S2
inductive RepP (G : Gs) (W : Wd) : List (D × D) → List (V × V) → Prop where
  | nil : RepP G W [] []
  | cons {a b : D} {x y : V} {ps : List (D × D)} {qs : List (V × V)} (h1 : RepV G W a x) (h2 : RepV G W b y) (t : RepP G W ps qs) : RepP G W ((a, b) :: ps) ((x, y) :: qs)
section
variable {fl : Pm} {X : Cx} {Wx : WX} {L k : Nat} {pos : Pos}
theorem RepP.mono {G : Gs} {W W' : Wd} (l : Le W W') : ∀ {ps : List (D × D)} {qs : List (V × V)}, RepP G W ps qs → RepP G W' ps qs
  | _, _, .nil => .nil
  | _, _, .cons a b t => .cons (a.mono l) (b.mono l) (t.mono l)
def EP2 (fl : Pm) (X : Cx) (Wx : WX) (pos : Pos) (keys : List (Option Expr)) (values : List Expr) (ms : List (ME × ME)) : Prop := PPs X pos keys values (ms.map fun p => (T (gx X fl) fl.x Wx p.1, T (gx X fl) fl.x Wx p.2))
end
end Bp


set_option Elab.async false
set_option linter.all false
set_option maxRecDepth 100000
set_option maxHeartbeats 4000000
/-! Bp21: zip of a list and a tuple. -/
namespace Bp
open PySem PyProof.Rows
def Kd.It (k : Kd) (h : Heap) (i l : Addr) (n : Nat) : Prop := match k with
  | .l => h.IsListIter i l n
  | .t => h.IsTupleIter i l n
def Kd.Sq (k : Kd) (h : Heap) (l : Addr) (xs : Array Value) : Prop := match k with
  | .l => h.IsList l xs
  | .t => h.IsTuple l xs
theorem Kd.It.up {k : Kd} {h h' : Heap} {i l : Addr} {n : Nat} (x : k.It h i l n) (e : ∀ o, h.get? i = some o → h'.get? i = some o) : k.It h' i l n := by
  cases k with
  | l => exact Heap.IsListIter.at x e
  | t => exact Heap.IsTupleIter.at x e
theorem Kd.Sq.up {k : Kd} {h h' : Heap} {l : Addr} {xs : Array Value} (x : k.Sq h l xs) (e : ∀ o, h.get? l = some o → h'.get? l = some o) : k.Sq h' l xs := by
  cases k with
  | l => obtain ⟨o, ho, r⟩ := x; exact ⟨o, e o ho, r⟩
  | t => obtain ⟨o, ho, r⟩ := x; exact ⟨o, e o ho, r⟩
theorem Kd.It.obj {k : Kd} {h : Heap} {i l : Addr} {n : Nat} (x : k.It h i l n) : ∃ o, h.get? i = some o ∧ ∀ v, o.data ≠ .cell v := by
  cases k with
  | l => obtain ⟨o, ho, _, hd⟩ := x; exact ⟨o, ho, fun v q => by rw [hd] at q; cases q⟩
  | t => obtain ⟨o, ho, _, hd⟩ := x; exact ⟨o, ho, fun v q => by rw [hd] at q; cases q⟩
section
variable {prog : Program} {w : World} {A : Around} {E : Value → Shared → Prop} {s : Shared}
theorem Kd.over {k : Kd} {i l : Addr} {n : Nat} {xs : Array Value} {Q : Value → Shared → Prop} (hh : A.handled = none) (hi : k.It s.heap i l n) (hl : k.Sq s.heap l xs) (hx : xs[n]? = none)
    (q : ∀ h' e, Heap.ExtBut i s.heap h' → (∃ o, h'.get? e = some o ∧ o.cls = .type "StopIteration") → E (.ref e) { s with heap := h' }) : wpAny (model prog w) A (Builtin.SmallTypes.nextOf (.ref i)) Q E s := by
  cases k with
  | l => exact wpAny_nextOf_list_end hh hi hl hx q
  | t => exact PySem.wpAny_nextOf_tuple_end hh hi hl hx q
abbrev Zp (z P O i j l m : Addr) : Prop := ZipApart z P O i j l m
variable {z P O i j l m : Addr} {p q : Nat} {xs ys : Array Value} {x y a b : Value} {k1 k2 : Kd}
def Rest (z O i j : Addr) (h h' : Heap) : Prop := ∀ c o, c ≠ z → c ≠ O → c ≠ i → c ≠ j → h.get? c = some o → h'.get? c = some o
end
def Kd.itO (k : Kd) (l : Addr) : Obj := match k with
  | .l => { cls := .type "list_iterator", data := .fields #[.ref l, .int 0 0] }
  | .t => { cls := .type "tuple_iterator", data := .fields #[.ref l, .int 0 0] }
abbrev zpA (h : Heap) (k1 k2 : Kd) (l m : Addr) : Heap := (h.push (k1.itO l)).push (k2.itO m)
abbrev zpP (h : Heap) (k1 k2 : Kd) (l m : Addr) : Heap := (zpA h k1 k2 l m).push { cls := .type "tuple", data := .seq #[.ref h.objs.size, .ref (h.push (k1.itO l)).objs.size] }
abbrev zpB (h : Heap) (k1 k2 : Kd) (l m : Addr) : Heap := (zpP h k1 k2 l m).push { cls := .type "tuple", data := .seq #[.none, .none] }
abbrev zpC (h : Heap) (k1 k2 : Kd) (l m : Addr) : Heap := (zpB h k1 k2 l m).push { cls := .type "zip", data := .fields #[.none, .bool false, .bool false, .ref (zpA h k1 k2 l m).objs.size, .ref (zpP h k1 k2 l m).objs.size] }
section
variable {prog : Program} {w : World} {A : Around} {E : Value → Shared → Prop} {s : Shared}
end
end Bp


set_option Elab.async false
set_option linter.all false
set_option maxRecDepth 100000
set_option maxHeartbeats 4000000
/-! Bp22: for .. in zip(..), enumerate(..). -/
namespace Bp
open PySem L2 PyProof.Rows He
def Kd.vw (k : Kd) (K : PySem.W.Frag) (H : Hp) (a : Addr) (xs : List V) : Prop := match k with
  | .l => SqL K H a xs
  | .t => SqT K H a xs
def ItzG (k1 k2 : Kd) (K : PySem.W.Frag) (a b : Addr) : It :=
  ⟨fun i H => ∃ (xs ys : List V) (x y : V), k1.vw K H a xs ∧ k2.vw K H b ys ∧ xs[i]? = some x ∧ ys[i]? = some y,
    fun i H v H' => ∃ T x y, v = .ref T ∧ H T = none ∧ H' = upd H T (.tup [x, y]) ∧ (∀ xs, k1.vw K H a xs → xs[i]? = some x) ∧ ∀ ys, k2.vw K H b ys → ys[i]? = some y,
    fun i H => ∃ xs ys : List V, k1.vw K H a xs ∧ k2.vw K H b ys ∧ (xs.length ≤ i ∨ ys.length ≤ i)⟩
section
variable {X : Cx} {pins : List (Addr × Obj)} {σ : L2.St} {H : Hp} {s : Shared}
theorem Kd.sq (k : Kd) {a : Addr} {xs : List V} (I : Inv X pins σ H s) (h : k.vw X.K H a xs) : ∃ its : List Value, Vals xs its ∧ k.Sq s.heap a its.toArray := by
  cases k with
  | l => obtain ⟨its, r, p, _⟩ := I.list h; exact ⟨its, r, p.isList⟩
  | t => obtain ⟨its, r, p, _⟩ := I.tuple h; exact ⟨its, r, p⟩
theorem Kd.inj (k : Kd) {a : Addr} {xs ys : List V} (I : Inv X pins σ H s) (h : k.vw X.K H a xs) (h' : k.vw X.K H a ys) : xs = ys := by
  cases k with
  | l => exact I.list_inj h h'
  | t => exact I.tuple_inj h h'
end
def iZipX (K : PySem.W.Frag) (ta : TA) : TI := fun σ H R => ta σ H fun vs H1 => ∃ a b xs ys, vs = [.ref a, .ref b] ∧ ((SqL K H1 a xs ∧ SqL K H1 b ys ∧ R (ItzG .l .l K a b) H1) ∨ (SqT K H1 a xs ∧ SqT K H1 b ys ∧ R (ItzG .t .t K a b) H1) ∨ (SqL K H1 a xs ∧ SqT K H1 b ys ∧ R (ItzG .l .t K a b) H1) ∨ (SqT K H1 a xs ∧ SqL K H1 b ys ∧ R (ItzG .t .l K a b) H1))
/-! ### the walks -/
def Src (G : Gs) (W : Wd) (k : Kd) (w : Wk) (a : Addr) : Prop := match w with
  | .items xs => ∃ vs, RepL G W xs vs ∧ ∀ (W' : Wd) (S' : Store) (H' : Hp), Le W W' → Rel G W' S' H' → k.vw G.K H' a vs
  | .at_ n => k = .l ∧ W.μ[n]? = some a
  | _ => False
def IteT (K : PySem.W.Frag) (a : Addr) : It :=
  ⟨fun i H => ∃ (xs : List V) (x : V), SqT K H a xs ∧ xs[i]? = some x, fun i H v H' => ∃ T x, v = .ref T ∧ H T = none ∧ H' = upd H T (.tup [.int (i : Nat), x]) ∧ ∀ xs, SqT K H a xs → xs[i]? = some x, fun i H => ∃ xs : List V, SqT K H a xs ∧ xs.length ≤ i⟩
def iEnumT (K : PySem.W.Frag) (ta : TA) : TI := fun σ H R => ta σ H fun vs H1 => ∃ a xs, vs = [.ref a] ∧ ((SqL K H1 a xs ∧ R (Ite K a) H1) ∨ (SqT K H1 a xs ∧ R (IteT K a) H1))
section
variable {fl : Pm} {X : Cx} {Wx : WX} {p pos tpos : Pos} {e e2 : Expr} {m1 m2 : ME} {es : List Expr} {kk : Nat}
end
end Bp


set_option Elab.async false
set_option linter.all false
set_option maxRecDepth 100000
set_option maxHeartbeats 4000000
/-! Bp23: == and != of tuples of plain things. -/
namespace Bp
open PySem L2 PyProof.Rows He
def pyS : D → Option PyData
  | .non => some .none
  | .bl b => some (.bool b)
  | .int i => some (.int i)
  | .str z => some (.str z)
  | _ => none
def pyL : List D → Option (List PyData)
  | [] => some []
  | d :: ds => match pyS d, pyL ds with
    | some p, some ps => some (p :: ps)
    | _, _ => none
def pyD : D → Option PyData
  | .tup xs => (pyL xs).map .tuple
  | d => pyS d
def cmpDT (T : CT) (neg : Bool) (a b : D) (S : Store) : Res D := match a with
  | .tup xs => (match pyD (.tup xs), pyD b with
    | some p, some q => if SeqAt.shaped p = true ∧ SeqAt.shaped q = true then .ok (.bl (if neg then !PyData.eqv p q else PyData.eqv p q)) S else .bad
    | _, _ => .bad)
  | a => cmpD T (if neg then .NotEq else .Eq) a b S
section
variable {fl : Pm} {X : Cx} {Wx : WX} {T : CT} {L k : Nat}
end
end Bp


set_option Elab.async false
set_option linter.all false
set_option maxRecDepth 100000
set_option maxHeartbeats 4000000
/-! Bp24: what super() leans on, bundled; binds. -/
namespace Bp
open PySem L2 PyProof.Rows He NdefX
structure SupOk (P : Program) (w : World) (K : PySem.W.Frag) (mg : Str → Option Value) (base : Heap) (tn : Tn) (L : Nat) (x mname : Str) (c n : Nat) (g : Fn) : Prop where
  st : PySem.W.nsIn K cStatics "thirdparty.any" = some none
  cl : ∃ cdD, PySem.W.clsIn K (ga K x) = some cdD
  gs : mg "super" = none
  ex : ∃ (f2 : Addr) (fd2 : FuncData) (ps2 : List Str), (∀ C, mg (tn.nm c) = some (.ref C) → PySem.W.mroIn K C (.ref (ga K x)) = some true ∧ PySem.W.ks_superIn K C (ga K x) mname = some (some (.ref f2))) ∧
    PySem.W.typeIn K (.ref f2) = some (.type "function") ∧ PySem.W.fnIn K f2 = true ∧ FnOk P w K mg base (L2.CX P w) L f2 fd2 ps2 (spM ⟨K, mg, tn, none⟩ n g) ∧ Binds K fd2 ps2 [] ∧ ps2.length = n
theorem SupOk.of {P : Program} {w : World} {K : PySem.W.Frag} {mg : Str → Option Value} {base : Heap} {tn : Tn} {L c n : Nat} {x y z mname : Str} {g : Fn} {fd2 : FuncData} {ps2 : List Str} (h : supCkB K x y z mname = true) (hs : mg "super" = none) (hy : tn.nm c = y) (hg : mg y = some (.ref (ga K y)))
    (F : FnOk P w K mg base (L2.CX P w) L (ma K (ga K z) mname) fd2 ps2 (spM ⟨K, mg, tn, none⟩ n g)) (hb : Binds K fd2 ps2 []) (hn : ps2.length = n) : SupOk P w K mg base tn L x mname c n g := by
  obtain ⟨h1, h⟩ := ba h
  obtain ⟨h2, h⟩ := ba h
  obtain ⟨h3, h⟩ := ba h
  obtain ⟨h4, h⟩ := ba h
  obtain ⟨h5, h6⟩ := ba h
  refine ⟨eqO_ok h1, Option.isSome_iff_exists.mp h2, hs, _, fd2, ps2, fun C e => ?_, of_decide_eq_true h5, h6, F, hb, hn⟩
  rw [hy, hg] at e
  cases e
  exact ⟨of_decide_eq_true h3, eqO_ok h4⟩
section
variable {fl : Pm} {X : Cx} {Wx : WX} {cd : Code} {pos : Pos} {k L n : Nat}
end
section
variable {K : PySem.W.Frag} {x qual file : Str} {params : Arguments} {body : List Stmt} {scope : Scope} {dcls f : Addr} {dvs : List V} {kws : List (Str × V)} {fd : FuncData} {ps : List Str}
end
end Bp


set_option Elab.async false
set_option linter.all false
set_option maxRecDepth 100000
set_option maxHeartbeats 4000000
/-! Bp25: what an expression makes is frozen. -/
namespace Bp
open PySem L2 PyProof.Rows He
theorem KwMk.of {P : Program} {w : World} {K : PySem.W.Frag} {mg : Str → Option Value} {base : Heap} {tn : Tn} {L c n N : Nat} {ks ps : List Str} {arr : List D → List D → List D} {g : Fn} {x : Str} {fd : FuncData} {gg : List Value → List Value → List Value} {gV : List V → List V → List V}
    (hx : tn.nm c = x) (hg : mg x = some (.ref (ga K x))) (hM : (Fa.mkr x).ok K = true) (F : FnOk P w K mg base (L2.CX P w) L (ma K (ga K x) "__init__") fd ps (spM ⟨K, mg, tn, none⟩ N g)) (B : KBn K fd ps (n + 1) ks gg gV)
    (harr : ∀ (W : Wd) (ds es : List D) (vs zs : List V), RepL ⟨K, mg, tn, none⟩ W ds vs → RepL ⟨K, mg, tn, none⟩ W es zs → ds.length = n + 1 → es.length = ks.length → RepL ⟨K, mg, tn, none⟩ W (arr ds es) (gV vs zs) ∧ (gV vs zs).length = N) : KwMk P w K mg base tn L c n ks N arr g :=
  ⟨_, _, fd, ps, gg, gV, by rw [hx]; exact hg, mkr_ok hM, F, B, harr⟩
noncomputable def mFz (m : ME) : ME := fun env S => gz S (m env S)
section
variable {fl : Pm} {X : Cx} {Wx : WX} {a b c e : Expr} {es : List Expr} {ma mb me : ME} {ta tb : MT} {pos : Pos}
theorem ex_fz (h : EX fl X Wx e me) : EX fl X Wx e (mFz me) :=
  PE.imp h fun σ H Q ⟨W, env, S, R, RE, q⟩ => ⟨W, env, S, R, RE, gz_ok R q⟩
def mFrzV (i : Nat) : MS := fun env S => match env[i]? with
  | some (some (.ref n)) => (match S[n]? with
    | some (.lst xs) => .nx (env.set i (some (.rl xs))) (S.set n .dead)
    | some (.dic kvs) => .nx (env.set i (some (.rk (kvs.map (·.1)) (kvs.map (·.2))))) (S.set n .dead)
    | _ => .nx env S)
  | _ => .nx env S
theorem Rel.kill {G : Gs} {W : Wd} {S : Store} {H : Hp} (R : Rel G W S H) {n : Nat} {a : Addr} {o : O} {ho : HO} (hn : W.μ[n]? = some a) (h0 : S[n]? = some o) (hne : o ≠ .dead) (hH : H a = some ho) : Le W ⟨upd W.F a ho, W.μ, W.xs⟩ ∧ Rel G ⟨upd W.F a ho, W.μ, W.xs⟩ (S.set n .dead) H := by
  have hF := R.off n a hn (by rw [h0]; exact fun z => hne (Option.some.inj z))
  have l : Le W ⟨upd W.F a ho, W.μ, W.xs⟩ := ⟨fun b u e => by
    show upd W.F a ho b = some u
    have ne : b ≠ a := fun q => by subst q; rw [hF] at e; cases e
    rw [upd_ne ne]
    exact e, List.prefix_rfl, List.prefix_rfl⟩
  have hlt : n < S.length := (List.getElem?_eq_some_iff.mp h0).1
  refine ⟨l, ⟨fun b u e => ?_, by rw [List.length_set]; exact R.len, R.nd, fun m b e1 e2 => ?_, fun m b u e1 e2 => ?_⟩⟩
  · have e' : upd W.F a ho b = some u := e
    by_cases hb : b = a
    · subst hb
      rw [upd_same] at e'
      cases e'
      exact hH
    · rw [upd_ne hb] at e'
      exact R.fr _ _ e'
  · by_cases hm : m = n
    · subst hm
      rw [List.getElem?_set_self hlt] at e2
      exact absurd rfl e2
    · rw [List.getElem?_set_ne (Ne.symm hm)] at e2
      show upd W.F a ho b = none
      have ne : b ≠ a := fun q => by
        subst q
        obtain ⟨k1, z1⟩ := List.getElem?_eq_some_iff.mp e1
        obtain ⟨k2, z2⟩ := List.getElem?_eq_some_iff.mp hn
        exact hm ((List.getElem_inj R.nd).mp (z1.trans z2.symm))
      rw [upd_ne ne]
      exact R.off m b e1 e2
  · by_cases hm : m = n
    · subst hm
      rw [List.getElem?_set_self hlt] at e2
      cases e2
      rw [hn] at e1
      cases e1
      exact ⟨ho, hH, .dead ho⟩
    · rw [List.getElem?_set_ne (Ne.symm hm)] at e2
      obtain ⟨v, h1, h2⟩ := R.obj m b u e1 e2
      exact ⟨v, h1, h2.mono l⟩
theorem es_fr {sts : List Stmt} {m : MS} (i : Nat) (h : ESs fl X Wx sts m) : ESs fl X Wx sts (mSeq (mFrzV i) m) := by
  refine PSs.imp h fun D σ H ⟨W, env, S, R, RE, q⟩ => ?_
  have dflt : (mFrzV i env S = .nx env S) → TSm (gx X fl) fl.x Wx m D σ H := fun e => by
    refine ⟨W, env, S, R, RE, ?_⟩
    unfold mSeq at q
    rw [e] at q
    exact q
  cases h1 : env[i]? with
  | none => exact dflt (by unfold mFrzV; rw [h1])
  | some o =>
    cases o with
    | none => exact dflt (by unfold mFrzV; rw [h1])
    | some d =>
      cases d with
      | ref n =>
        cases h2 : S[n]? with
        | none => exact dflt (by unfold mFrzV; rw [h1]; dsimp only; rw [h2])
        | some u =>
          obtain ⟨v, hv, rv⟩ := RE.at_ i _ h1
          cases rv with
          | ref _ A hA =>
            obtain ⟨ho, hH, ro⟩ := R.obj n A _ hA h2
            cases u with
            | lst xs =>
              cases ro with
              | lst _ vs rl =>
                obtain ⟨l, R'⟩ := R.kill hA h2 (by intro h; cases h) hH
                refine ⟨_, env.set i (some (.rl xs)), S.set n .dead, R', ?_, ?_⟩
                · have z := (RE.mono l).set (RepV.rl xs vs A upd_same (rl.mono l)) i
                  have e : σ.set i (some (V.ref A)) = σ := by
                    refine List.ext_getElem? fun j => ?_
                    by_cases hj : i = j
                    · subst hj
                      rw [List.getElem?_set_self (List.getElem?_eq_some_iff.mp hv).1, hv]
                    · rw [List.getElem?_set_ne hj]
                  rw [e] at z
                  exact z
                · unfold mSeq mFrzV at q
                  rw [h1] at q
                  dsimp only at q
                  rw [h2] at q
                  exact EvS.mono q l
            | dic kvs =>
              cases ro with
              | dic _ kws hk rl =>
                obtain ⟨l, R'⟩ := R.kill hA h2 (by intro h; cases h) hH
                refine ⟨_, env.set i (some (.rk (kvs.map (·.1)) (kvs.map (·.2)))), S.set n .dead, R', ?_, ?_⟩
                · have z := (RE.mono l).set (RepV.rk (kvs.map (·.1)) (kvs.map (·.2)) A kws upd_same hk (rl.mono l)) i
                  have e : σ.set i (some (V.ref A)) = σ := by
                    refine List.ext_getElem? fun j => ?_
                    by_cases hj : i = j
                    · subst hj
                      rw [List.getElem?_set_self (List.getElem?_eq_some_iff.mp hv).1, hv]
                    · rw [List.getElem?_set_ne hj]
                  rw [e] at z
                  exact z
                · unfold mSeq mFrzV at q
                  rw [h1] at q
                  dsimp only at q
                  rw [h2] at q
                  exact EvS.mono q l
            | obj c fs => exact dflt (by unfold mFrzV; rw [h1]; dsimp only; rw [h2])
            | dead => exact dflt (by unfold mFrzV; rw [h1]; dsimp only; rw [h2])
      | _ => exact dflt (by unfold mFrzV; rw [h1])
end
end Bp


set_option Elab.async false
set_option linter.all false
set_option maxRecDepth 100000
set_option maxHeartbeats 4000000
/-! Bp27: own exceptions with fields: super().__init__(..), self.f = e. -/
namespace Bp
open PySem L2 PyProof.Rows NdefX
abbrev VEI : String := "ValueError.__init__"
section
variable {X : Cx} {pins : List (Addr × Obj)} {σ : L2.St} {H : Hp} {s : Shared} {a C u : Addr} {E : Value → Shared → Prop} {A : Around}
theorem oinit_mw {us : List Value} {Q : Value → Shared → Prop} (T : OexC X.K C) (I : Inv X pins σ H s) (e : H a = some (exo a C none)) (hu : s.heap.get? u = some (PySem.W.kxs_mw VEI a)) (hl : us.length ≤ sizeLine) (h : ∀ s', Inv X pins σ H s' → Q .none s') :
    wpAny (model X.prog X.w) A (call (.ref u) us) Q E s := by
  obtain ⟨nm, q, N, bs, bm, sn, sub, ab, col, dd, k0, k1, k2, k3, k5, hC, hbm⟩ := T.cls
  obtain ⟨t1, ho⟩ := exo_at I.hok e
  have hC' := I.kIn _ _ hC
  obtain ⟨hp, g, d, t, os⟩ := s
  have fin : ∀ h', (∀ b o, b ≠ a → hp.get? b = some o → h'.get? b = some o) → h'.get? a = some (PySem.W.excObj C hp.objs.size none .none) → h'.get? hp.objs.size = some (PySem.W.excTup us) → Q .none ⟨h', g, d, t, os⟩ := fun h' k hx _ => by
    have J := I.write (t' := t) (x := a) (e := a) (o := exo a C none) (by rw [e]; exact True.intro) (.inl rfl) k ⟨_, hx⟩ (exo_ok hx)
    have eu : upd H a (exo a C none) = H := by
      funext b
      by_cases hb : b = a
      · rw [hb, upd_same, e]
      · rw [upd_ne hb]
    rw [eu] at J
    exact h _ J
  refine wpAny_call (codeAny_of_tree ?_)
  show wpAny _ A.in1 (callAny (.ref u) ⟨us, []⟩) _ _ _
  simp only [callAny]
  refine wpAny_bind (wpAny_load hu ?_)
  simp only [PySem.W.kxs_mw, show (Value.type "method-wrapper" == Value.type "method" || Value.type "method-wrapper" == Value.type "builtin_function_or_method" || Value.type "method-wrapper" == Value.type "method-wrapper") = true by decide, if_true]
  refine PySem.W.KFB.if_so (by decide) ?_
  refine wpAny_bind (PySem.W.check_bound_init F.excBase_ValueError.toExcCallFacts hC' ho rfl ?_)
  refine wpAny_bind (wpAny_pure (wpAny_pure ?_))
  refine ⟨Code.quiet_builtin _ (by decide +kernel), codeAny_builtin F.excBase_ValueError.initEntry ?_⟩
  exact PySem.W.exc_init_tree (cls := .ref C) (t0 := t1) (dv := none) (c2 := .none) (c3 := .none) (b4 := .bool false) ho hl fin
end
def tXsup (K : PySem.W.Frag) (dcls : Addr) (ta : TA) : TE := fun σ H Q => ∃ a C : Addr, σ[0]? = some (some (V.ref a)) ∧ H a = some (exo a C none) ∧ OexC K C ∧ PySem.W.mroIn K C (.ref dcls) = some true ∧ PySem.W.ks_superIn K C dcls "__init__" = some (some (.builtin VEI)) ∧
  PySem.W.subIn K (.ref C) (.type "ValueError") = some true ∧ ta σ H fun vs H1 => vs.length ≤ 1000 ∧ H1 a = some (exo a C none) ∧ Q .non H1
section
variable {X : Cx} {cd : Code} {pos : Pos}
theorem pea_exsuper {body : List Stmt} {slf : Str} {dcls : Addr} {e : Expr} {es : List Expr} {ta : TA} {p0 p1 p2 : Pos} (SE : SupE X dcls slf) (hcdx : cd = .func body X.env)
    (hN : X.N[0]? = some slf) (hv : Vis X.env.scope slf) (hfr : X.env.kindOf slf ≠ some .free) (hks : X.env.kindOf "super" = some .globalImplicit) (hmg : X.mg "super" = none) (hst : PySem.W.nsIn X.K cStatics "thirdparty.any" = some none)
    (hcl : ∃ cdD, PySem.W.clsIn X.K dcls = some cdD) (ha : PA X (e :: es) ta)
    (he : starEach (e :: es) X.env = (false, eval e X.env) :: starEach es X.env := by rfl) (hpl : (backTo pos (starEach es X.env)).any (·.1) = false := by rfl)
    (hev : ∃ pl, eval (.Call (.Attribute (.Call (.Name "super" p0) [] [] p1) "__init__" p2) (e :: es) [] pos) X.env = (do
      let ov ← attributeBase (.Call (.Name "super" p0) [] [] p1) "__init__" X.env (eval (.Call (.Name "super" p0) [] [] p1) X.env)
      standAt p2.atName
      let (f, first) ← holding [ov] (getMethod ov "__init__" pl)
      callWith pos f first (backTo pos (starEach (e :: es) X.env)) []) := by exact ⟨_, rfl⟩) :
    PEA X cd (.Call (.Attribute (.Call (.Name "super" p0) [] [] p1) "__init__" p2) (e :: es) [] pos) (tXsup X.K dcls ta) := by
  refine ⟨fun pins s σ H Q I ⟨a, C, hs0, hHa, TC, hsub, hsup, hB, q⟩ => ?_⟩
  obtain ⟨pl, hev⟩ := hev
  subst hcdx
  obtain ⟨f, cda, of, oc, fd, ar, vs, file, tf, h1, h2, h3, h4, h5, h6, h7, h8, h9, h10⟩ := SE.ex
  obtain ⟨cc, oC, c1, c2, c3⟩ := SE.cell
  obtain ⟨cdD, hcl⟩ := hcl
  have KX := I.kIn
  obtain ⟨oD, hD1, hD2⟩ : ∃ oD, s.heap.get? dcls = some oD ∧ oD.data = .cls cdD := by
    unfold PySem.W.clsIn at hcl
    split at hcl
    · rename_i ho
      cases hcl
      exact ⟨_, KX _ _ ho, rfl⟩
    · cases hcl
  obtain ⟨m, hns, hlk⟩ := I.loc
  obtain ⟨u0, ru0, lk0⟩ := hlk 0 slf (.ref a) hN hs0 hv
  obtain rfl : u0 = Value.ref a := ru0
  refine ks_wpAt_MethodCall (pl := pl) ?_ hev
  refine ks_wpAt_super_base hks SE.kc (by decide) h1 (KX _ _ h2) h3 h4 h6 (KX _ _ h7) h8 h9 h10 SE.top ?_
  obtain ⟨mb, b1, b2⟩ := I.mod.blt
  refine PySem.W.ks_loadName_global I.ok.kind hks (PySem.Calls.loadGlobal_builtin (by rw [I.ok.glob]; exact I.mod.glob.keeps I.bk) hmg (by rw [I.ok.blt]; exact b1.keeps I.bk) ((b2 _ (by decide +kernel)).trans boot_super') ⟨rfl, ?_⟩)
  refine wpAny_loadName_free I.ok.kind SE.kc c1 ⟨_, KX _ _ c2, c3⟩ ?_
  have fin : wpAny (model X.prog X.w) X.A (isType (.ref dcls)) (fun b s₄ => b = true ∧ wpAny (model X.prog X.w) X.A (call (.type "super") [.ref dcls, .ref a]) (fun ov s₁ => wpAny (model X.prog X.w) X.A (getMethod ov "__init__" pl) (fun fx s₂ => wpAny (model X.prog X.w) X.A (callWith pos fx.1 fx.2 (backTo pos (starEach (e :: es) X.env)) []) (EP X pins σ Q) X.xe s₂) X.xe s₁) X.xe s₄) X.xe s := by
    obtain ⟨t1, hoa⟩ := exo_at I.hok hHa
    obtain ⟨hh, gg, dd, tt, oo⟩ := s
    refine ks_wpAny_isType_cls hD1 hD2 ⟨rfl, ?_⟩
    refine ks_wpAny_call_super hD1 hD2 hoa rfl (fun c e => by cases e) (PySem.W.looks_mroIn KX hsub) (fun h' so k' => ?_)
    have I1 := I.kept (t' := tt) k'
    have KX1 := I1.kIn
    have J1 : PySem.W.InstAt h' a _ C none := ⟨k' _ _ hoa, rfl, rfl, trivial⟩
    cases hcC : PySem.W.clsIn X.K C with
    | none => unfold PySem.W.ks_superIn at hsup; rw [hcC] at hsup; cases hsup
    | some cdC =>
    unfold PySem.W.ks_superIn at hsup
    rw [hcC] at hsup
    refine PySem.W.kxs_getMethod PySem.W.kxs_ValueError so (PySem.W.looks_opaque KX1 hst) (l₀ := cdC.mro) ?_ rfl KX1 hsup (J1.type.andThen (PySem.W.looks_subIn KX1 hB)) (PySem.W.ks_ne KX1 J1 hcC) (by decide) ?_
    · exact fun A Q E s k q => wpAny_bind ((PySem.W.looks_clsIn KX1 hcC) A _ E s k (wpAny_pure q))
    have k2 : ∀ b o, h'.get? b = some o → (h'.push (PySem.W.kxs_mw VEI a)).get? b = some o := fun b o e => Heap.get?_push_of_some _ e
    have I2 := I1.kept (t' := tt + 1) k2
    have hq : (h'.push (PySem.W.kxs_mw VEI a)).get? h'.objs.size = some (PySem.W.kxs_mw VEI a) := Heap.get?_push_at rfl rfl
    have I3 : Inv X ((h'.objs.size, PySem.W.kxs_mw VEI a) :: pins) σ H ⟨h'.push (PySem.W.kxs_mw VEI a), gg, dd, tt + 1, oo⟩ := I2.pins_of fun p hp => by
      rcases List.mem_cons.mp hp with rfl | hp
      · exact ⟨hq, I1.hok.fresh (Nat.le_refl _), Nat.ne_of_gt I1.lt, I1.nofs (Nat.le_refl _), fun v e => by cases e⟩
      · exact I2.pin p (List.mem_append_right _ hp)
    rw [he]
    refine PySem.W.kxs_callWith (i := VEI) (x := a) (by show (false || (backTo pos (starEach es X.env)).any (·.1)) = false; rw [hpl]; rfl) ?_
    suffices key : wpAny (model X.prog X.w) X.A (spliced (backTo pos (starEach (e :: es) X.env))) (fun vs s₁ => PySem.W.KxsAt VEI h'.objs.size a s₁.heap ∧ wpAny (model X.prog X.w) X.A (call (.ref h'.objs.size) ([] ++ vs)) (EP X pins σ Q) X.xe s₁) X.xe ⟨h'.push (PySem.W.kxs_mw VEI a), gg, dd, tt + 1, oo⟩ by
      rw [he] at key
      exact PySem.Calls.evalArgs_plain key
    refine thn (ha.run pos _ _ σ H _ I3 q) fun us s2 ⟨vs, H2, I4, r, hlen, hH2, q2⟩ => ?_
    have hm := (I4.pin _ (List.mem_append_right _ (List.mem_cons_self ..))).1
    have I5 : Inv X pins σ H2 s2 := I4.pins_of fun p hp => I4.pin p (List.mem_append_right _ (List.mem_cons_of_mem _ hp))
    refine ⟨hm, ?_⟩
    rw [List.nil_append]
    exact oinit_mw TC I5 hH2 hm (by rw [← Paired.length r, sizeLine_eq]; omega) fun s' J => ⟨.non, H2, J, rfl, q2⟩
  rw [h5]
  rcases lk0 with ⟨hk, hm⟩ | ⟨hk, cx, hc, hcell⟩
  · exact wpAny_loadName_local I.ok.kind hk hns hm fin
  · rcases hk with hk | hk
    · exact wpAny_loadName_cell I.ok.kind hk hc hcell fin
    · exact absurd hk hfr
end
/-! ### an exception's __init__ as a def -/
section
variable {X : Cx} {cd : Code} {st : Stmt} {sts : List Stmt} {t1 t2 : TS} {e : Expr} {te : TE} {pos : Pos}
theorem psa_nil : PSA X cd [] (fun D σ H => D.nx σ H) := ⟨fun pins s σ H D I q => _root_.PySem.wpAt_of_wpAny (by
  show wpAny _ _ (pure Flow.next) _ _ _
  exact wpAny_pure ⟨σ, H, I, q⟩)⟩
theorem psa_cons (h1 : PA1 X cd st t1) (h2 : PSA X cd sts t2) : PSA X cd (st :: sts) (fun D σ H => t1 { D with nx := fun σ' H' => t2 D σ' H' } σ H) := by
  refine ⟨fun pins s σ H D I q => ks_wpAt_execs_cons ?_⟩
  refine ks_wpAt_mono (h1.run pins s σ H _ I q) (fun fl' s' hs => ?_) fun _ _ h => h
  cases fl' with
  | next =>
    obtain ⟨σ', H', J, q2⟩ := hs
    exact h2.run pins s' σ' H' D J q2
  | ret u => exact hs
  | brk => exact hs
  | cont => exact hs
theorem pa1_of (h : PS X st t1) : PA1 X cd st t1 := ⟨fun pins s σ H D I q => _root_.PySem.wpAt_of_wpAny (h.run pins s σ H D I q)⟩
theorem pa1_expr (he : PEA X cd e te) (hi : interactive X.env = false := by rfl) (hs : swapsWith e none pos.line X.env = pure false := by rfl) : PA1 X cd (.Expr e pos) (tDrop te) := by
  refine ⟨fun pins s σ H D I q => ks_wpAt_Expr_any (ks_wpAt_mono (he.run pins s σ H _ I q) (fun v s' hv => ?_) fun _ _ h => h) hi hs⟩
  obtain ⟨x, H', J, _, q'⟩ := hv
  exact ⟨σ, H', J, q'⟩
end
def spT (N ps : List Str) (t : TS) : Sp := fun vs H Q _ => vs.length = ps.length ∧ t { nx := fun _ H' => Q .non H', rt := Q } (L2.start N vs) H
section
variable {P : Program} {w : World} {K : PySem.W.Frag} {mg : Str → Option Value} {base : Heap}
theorem fn_mkX {x qual file slf : Str} {st : Stmt} {f dcls : Addr} {fd : FuncData} {N ps : List Str} {k : Nat} {t : TS} {dvs : List V} {kws : List (Str × V)} (F : FunS K x qual (defArgs st) (defBody st) (defScope st) dcls dvs kws file f fd) (Sc : NScope N ps ["__class__"] (defScope st))
    (hself : ∃ ar, ((defArgs st).posonlyargs ++ (defArgs st).args).head? = some ar ∧ ar.arg = slf) (hfile : ((P.main.file : Str) == file) = true) (htop : (P.main.scope.names.lookup ("super" : Str)).isSome = false)
    (hb : ∀ (cc c : Addr) (A : Around) (outer : List PySem.Env) (s : Shared) (H : Hp) (E : XK), SupE (cxs P w K mg base N x qual st cc c f A outer s H E) dcls slf →
      PSA (cxs P w K mg base N x qual st cc c f A outer s H E) (.func (defBody st) (cxs P w K mg base N x qual st cc c f A outer s H E).env) (defBody st) t) :
    FnOk P w K mg base (L2.CX P w) (k + 1) f fd ps (spT N ps t) := by
  obtain ⟨oc, od, dV, kV, doc, pm, an, c, cc, ct, osl, oC, oK, cvs, tf, rfl, lk, hcd, _, _, lcc, dcc, lc, dc, hcv⟩ := F.ex
  refine ⟨fun vs H Q E h => h.1, fun A outer s H args us vs Q E hr e0 hbd r hsp => ?_⟩
  have hl : vs.length = ps.length := hsp.1
  have KX : K.In s.heap := e0.mod.kin.keeps fun b o e => (e0.bs b o e).1
  have lim : s.heap.NoLimit := e0.mod.nolimit.keeps fun b o e => (e0.bs b o e).1
  have hloc : ∀ y ∈ ps.zip us, (defScope st).names.lookup y.1 = some .local := fun ⟨n, v⟩ hy => Sc.par n (List.of_mem_zip hy).1
  have hcl : CellsAt [("__class__", cc)] ["__class__"] [none] s.heap H := by
    have lk1 : ∀ {y : Str} {c0 : Addr}, ([("__class__", cc)] : List (Str × Addr)).lookup y = some c0 → y = "__class__" ∧ c0 = cc := fun {y c0} e => by
      unfold List.lookup at e
      split at e
      · rename_i h0
        cases e
        exact ⟨eq_of_beq h0, rfl⟩
      · cases e
    refine ⟨rfl, fun y c0 e => ?_, fun a b c0 e1 e2 => (lk1 e1).1.trans (lk1 e2).1.symm, fun i y hi => ?_⟩
    · obtain ⟨rfl, rfl⟩ := lk1 e
      exact ⟨(e0.bs _ _ (e0.mod.kin _ _ lcc)).2, _, _, KX _ _ lcc, dcc⟩
    · cases i with
      | zero =>
        cases hi
        exact ⟨cc, by simp [List.lookup], fun v e => by cases e⟩
      | succ i => simp at hi
  refine ks_codeAny_call_defAt (body := defBody st) (binds := ps.zip us) hr.depth (KX _ _ lk) rfl lim (PySem.W.codeRec_of KX hcd) rfl hbd Sc.nocell hloc (fun h₁ hns kp => ?_) Sc.co Sc.gen Sc.kind
  have I := inv_startN (CX := L2.CX P w) (F := nfS x qual st cc c) (f := f) (E := E) (tk := s.toks + (ps.zip us).length) Sc hr.hd e0 hl r hcl hns kp
  have hSE : SupE (cxs P w K mg base N x qual st cc c f A outer s H E) dcls slf := by
    obtain ⟨ar, ha1, ha2⟩ := hself
    exact ⟨⟨f, c, _, oK, _, ar, cvs, file, tf, rfl, lk, rfl, ha1, ha2, rfl, lc, dc, hcv, hfile⟩, ⟨cc, oC, rfl, lcc, dcc⟩, Sc.frk _ (by simp), htop⟩
  have B := hb cc c A outer s H E hSE
  have hst : startF N vs [none] = L2.start N vs := by
    have hpl : ps.length + 1 ≤ N.length := by
      have q := congrArg List.length Sc.pre
      rw [List.length_take, List.length_append] at q
      simp at q
      omega
    unfold startF L2.start
    have e1 : N.length - vs.length = (N.length - vs.length - 1) + 1 := by omega
    rw [e1, List.replicate_succ]
    rfl
  rw [hst] at I
  refine ks_wpAt_mono (B.run [] _ _ H _ I hsp.2) (fun fl s' hs => ?_) fun e s' hs => hs
  have fin : ∀ {σ' : L2.St} {H' : Hp} {v : V} {u : Value}, Inv (cxs P w K mg base N x qual st cc c f A outer s H E) [] σ' H' s' → RelV v u → Q v H' → CE outer P w H s Q u s' :=
    fun {σ' H' v u} J rv q => ⟨v, H', J.os, J.bare, J.base, J.hok, rv, q⟩
  cases fl with
  | ret u =>
    obtain ⟨v, σ', H', J, rv, q⟩ := hs
    exact fin J rv q
  | next =>
    obtain ⟨σ', H', J, q⟩ := hs
    exact fin (v := V.non) (u := Value.none) J rfl q
  | brk =>
    obtain ⟨_, _, _, q⟩ := hs
    exact False.elim q
  | cont =>
    obtain ⟨_, _, _, q⟩ := hs
    exact False.elim q
end
def tXf (K : PySem.W.Frag) : List (Str × Nat) → TS
  | [] => fun D σ H => D.nx σ H
  | (f, i) :: r => fun D σ H => tOst K f (tVar 0) (tVar i) { D with nx := fun σ' H' => tXf K r D σ' H' } σ H
def tXin (K : PySem.W.Frag) (dcls : Addr) (m : Str) (fs : List (Str × Nat)) : TS := fun D σ H => tDrop (tXsup K dcls (tCons (tC (.str m)) tNil)) { D with nx := fun σ' H' => tXf K fs D σ' H' } σ H
structure XclsK (K : PySem.W.Frag) (C : Addr) : Prop where
  ox : OexC K C
  ec : ExcC K C
  mr : PySem.W.mroIn K C (.ref C) = some true
  su : PySem.W.ks_superIn K C C "__init__" = some (some (.builtin VEI))
  ve : PySem.W.subIn K (.ref C) (.type "ValueError") = some true
section
variable {K : PySem.W.Frag} {C a : Addr} {H1 : Hp} {vs : List V} {Q : VK}
theorem tXf_more (T : XclsK K C) {σ : L2.St} (h0 : σ[0]? = some (some (V.ref a))) {dx : Addr} (hne : dx ≠ a) (hd : H1 dx = none) : ∀ (fs : List (Str × Nat)) (acc : List (Str × V)) (ys : List V) (H : Hp) (D : Ends), (∀ f ∈ fs, PySem.W.findIn K (.ref C) f.1 = some none) → acc.length + fs.length ≤ 900 →
    (fs.length = ys.length) → (∀ (j : Nat) f y, fs[j]? = some f → ys[j]? = some y → σ[f.2]? = some (some y)) → H a = some (exo a C (some dx)) → H dx = some (exd dx acc) → (∀ b, b ≠ a → b ≠ dx → H b = H1 b) →
    (∀ H', H' a = some (exo a C (some dx)) → H' dx = some (exd dx (((fs.map (·.1)).zip ys).reverse ++ acc)) → (∀ b, b ≠ a → b ≠ dx → H' b = H1 b) → D.nx σ H') → tXf K fs D σ H
  | [], acc, ys, H, D, _, _, hl, _, ha, hx, ho, q => q H ha (by simpa using hx) ho
  | (f, i) :: fs, acc, [], H, D, _, _, hl, _, _, _, _, _ => by simp at hl
  | (f, i) :: fs, acc, y :: ys, H, D, hf, hlen, hl, hv, ha, hx, ho, q => by
    refine ⟨y, hv 0 (f, i) y rfl rfl, .ref a, h0, a, C, rfl, T.ox, hf (f, i) (by simp), .inr ⟨dx, acc, ha, hx, by simp at hlen; omega, ?_⟩⟩
    refine tXf_more T h0 hne hd fs ((f, y) :: acc) ys _ D (fun g hg => hf g (by simp [hg])) (by simp at hlen ⊢; omega) (by simpa using hl) (fun j g z h1 h2 => hv (j + 1) g z h1 h2) ?_ upd_same (fun b h1 h2 => by rw [upd_ne h2]; exact ho b h1 h2) fun H' z1 z2 z3 => q H' z1 ?_ z3
    · rw [upd_ne hne.symm]; exact ha
    · rw [z2]; simp
theorem tXin_ok (T : XclsK K C) {m : Str} {f : Str} {i : Nat} {fs : List (Str × Nat)} {y : V} {ys : List V} {N ps : List Str} (hl : fs.length = ys.length) (hz : fs.length ≤ 800) (hf : ∀ g ∈ (f, i) :: fs, PySem.W.findIn K (.ref C) g.1 = some none)
    (hN : (L2.start N (.ref a :: vs))[0]? = some (some (V.ref a))) (hv : ∀ (j : Nat) g z, ((f, i) :: fs)[j]? = some g → (y :: ys)[j]? = some z → (L2.start N (.ref a :: vs))[g.2]? = some (some z)) (hp : (V.ref a :: vs).length = ps.length) (ha : H1 a = none) {Q' : XK}
    (q : ∀ dx, H1 dx = none → Q' (.ref C) (some dx) (upd H1 dx (.xd ((((f, i) :: fs).map (·.1)).zip (y :: ys)).reverse))) :
    spT N ps (tXin K C m ((f, i) :: fs)) (.ref a :: vs) (upd H1 a (exo a C none)) (fun v H2 => v = .non ∧ ∃ (d : Addr) (fs : List (Str × V)), H2 a = some (exo a C (some d)) ∧ H2 d = some (exd d fs) ∧ H1 d = none ∧ Q' (.ref C) (some d) (upd (del H2 a) d (.xd fs))) (fun _ _ _ => False) := by
  refine ⟨hp, a, C, hN, upd_same, T.ox, T.mr, T.su, T.ve, ⟨by simp, upd_same, ?_⟩⟩
  refine ⟨y, hv 0 (f, i) y rfl rfl, .ref a, hN, a, C, rfl, T.ox, hf (f, i) (by simp), .inl ⟨upd_same, fun dx hdx hne => ?_⟩⟩
  have hd1 : H1 dx = none := by rw [upd_ne hne] at hdx; exact hdx
  refine tXf_more (H1 := H1) T hN hne hd1 fs [(f, y)] ys _ _ (fun g hg => hf g (by simp [hg])) (by simp; omega) hl (fun j g z h1 h2 => hv (j + 1) g z h1 h2) upd_same (by rw [upd_ne hne, upd_same]) (fun b h1 h2 => by rw [upd_ne h1, upd_ne h2, upd_ne h1]) fun H' z1 z2 z3 => ?_
  refine ⟨rfl, dx, _, z1, z2, hd1, ?_⟩
  have e : upd (del H' a) dx (.xd (((fs.map (·.1)).zip ys).reverse ++ [(f, y)])) = upd H1 dx (.xd ((((f, i) :: fs).map (·.1)).zip (y :: ys)).reverse) := by
    funext b
    by_cases hb : b = dx
    · subst hb; rw [upd_same, upd_same]; simp
    · rw [upd_ne hb, upd_ne hb]
      by_cases hba : b = a
      · rw [hba, del_same, ha]
      · rw [del_ne hba]; exact z3 b hba hb
  rw [e]
  exact q dx hd1
end
structure ExcMk (P : Program) (w : World) (K : PySem.W.Frag) (mg : Str → Option Value) (base : Heap) (tn : Tn) (L c n : Nat) (ks : List Nat) : Prop where
  ex : ∃ (C fI : Addr) (fd : FuncData) (N ps fs : List Str) (m : Str) (is : List Nat), mg (tn.nm c) = some (.ref C) ∧ XclsK K C ∧ PySem.W.findIn K (.ref C) "__init__" = some (some (.ref fI)) ∧ PySem.W.typeIn K (.ref fI) = some (.type "function") ∧
    FnOk P w K mg base (L2.CX P w) L fI fd ps (spT N ps (tXin K C m (fs.zip is))) ∧ Binds K fd ps [] ∧ fs.reverse = ks.map tn.nm ∧ (∀ f ∈ fs, PySem.W.findIn K (.ref C) f = some none) ∧ fs.length = n ∧ is = (List.range n).map (· + 1) ∧ 0 < n ∧ n ≤ 800 ∧ ps.length = n + 1
theorem range_get' {n j x : Nat} (h : (List.range n)[j]? = some x) : x = j ∧ j < n := by
  obtain ⟨h1, h2⟩ := List.getElem?_eq_some_iff.mp h
  rw [List.getElem_range] at h2
  exact ⟨h2.symm, by simpa using h1⟩
def mRaiseF (c n : Nat) (ks : List Nat) (ms : List ME) : MS := fun env S => match mArgs ms env S with
  | .ok ds S' => if ds.length = n then .exc ⟨c, ks, ds.reverse⟩ env S' else .bad
  | .exc e S' => .exc e env S'
  | .bad => .bad
theorem repL_rev {G : Gs} {W : Wd} : ∀ {ds : List D} {vs : List V}, RepL G W ds vs → RepL G W ds.reverse vs.reverse
  | _, _, .nil => .nil
  | d :: ds, v :: vs, .cons h t => by
    rw [List.reverse_cons, List.reverse_cons]
    exact (repL_rev t).append (.cons h .nil)
theorem zip_fst {α β : Type} : ∀ {xs : List α} {ys : List β}, xs.length = ys.length → (xs.zip ys).map (·.1) = xs
  | [], _, _ => by simp
  | x :: xs, [], h => by simp at h
  | x :: xs, y :: ys, h => by simp at h; simp [zip_fst h]
theorem zip_snd {α β : Type} : ∀ {xs : List α} {ys : List β}, xs.length = ys.length → (xs.zip ys).map (·.2) = ys
  | [], ys, h => by cases ys with | nil => rfl | cons => simp at h
  | x :: xs, [], h => by simp at h
  | x :: xs, y :: ys, h => by simp at h; simp [zip_snd h]
section
variable {fl : Pm} {X : Cx} {Wx : WX} {L k : Nat} {x : Str} {p pos pos' : Pos} {e : Expr} {es : List Expr} {ms : List ME}
theorem es_raiseF (c n : Nat) (ks : List Nat) (hc : fl.tn.nm c = x) (M : ExcMk X.prog X.w X.K X.mg X.base fl.tn L c n ks) (C0 : Cxt fl X Wx k) (hL : L + 1 ≤ k) (hg : Gl X x) (ha : EA fl X Wx (e :: es) ms)
    (hdb : (x == ("__debug__" : Str)) = false := by decide) (he : starEach (e :: es) X.env = (false, eval e X.env) :: starEach es X.env := by rfl) (hpl : (backTo pos (starEach es X.env)).any (·.1) = false := by rfl) :
    ES fl X Wx (.Raise (some (.Call (.Name x p) (e :: es) [] pos)) none pos') (mRaiseF c n ks ms) := by
  subst hc
  obtain ⟨C, fI, fd, N, ps, fs, m, is, hm, T, hi, ht, F, hb, hks, hfs, hn, his, hn0, hn8, hps⟩ := M.ex
  refine PS.imp (ps_raise C0.calm C0.tk (pmk_oex (ds := []) (dvs := []) T.ox hi ht F (C0.hr.mono hL) hb .nil (fun pins σ H s e s' I c => C0.tk e s' (XE.of_call I (fun _ _ _ h => h.elim) c)) hg hm ha hdb he hpl)) fun D σ H ⟨W, env, S, R, RE, h⟩ => ?_
  refine ⟨W, env, S, R, RE, ?_⟩
  have hG := C0.gx
  unfold mRaiseF at h
  cases em : mArgs ms env S with
  | bad => rw [em] at h; exact h.elim
  | exc x S' =>
    rw [em] at h
    exact fun W' cls d H' l R' rx => h W' cls d σ H' l R' rx (RE.mono l)
  | ok ds S' =>
    rw [em] at h
    dsimp only at h
    split at h
    case isFalse => exact h.elim
    rename_i hdn
    intro W1 vs H1 l1 R1 rl
    have hvn : vs.length = n := by rw [← rl.length, hdn]
    refine ⟨by omega, fun a hna => ?_⟩
    rw [List.append_nil]
    -- the fields
    obtain ⟨f, fs', rfl⟩ : ∃ f fs', fs = f :: fs' := by
      cases fs with
      | nil => simp at hn; omega
      | cons f fs' => exact ⟨f, fs', rfl⟩
    obtain ⟨y, ys, rfl⟩ : ∃ y ys, vs = y :: ys := by
      cases vs with
      | nil => simp at hvn; omega
      | cons y ys => exact ⟨y, ys, rfl⟩
    have hil : is.length = n := by rw [his]; simp
    obtain ⟨i, is', rfl⟩ : ∃ i is', is = i :: is' := by
      cases is with
      | nil => simp at hil; omega
      | cons y ys => exact ⟨y, ys, rfl⟩
    simp only [List.length_cons] at hn hvn hil
    have hz : (f :: fs').zip (i :: is') = (f, i) :: fs'.zip is' := rfl
    rw [hz]
    have e1 : ((((f, i) :: fs'.zip is').map (·.1)).zip (y :: ys)) = (f :: fs').zip (y :: ys) := by
      rw [← hz, zip_fst (by simp; omega)]
    refine tXin_ok T (Q' := fun cls d H' => Wx cls d σ H') (vs := y :: ys) (N := N) (ps := ps) (m := m) (f := f) (i := i) (fs := fs'.zip is') (y := y) (ys := ys) (by rw [List.length_zip]; omega) (by rw [List.length_zip]; omega) (fun g hg => hfs g.1 ?_) ?_ ?_ ?_ hna ?_
    · have := List.mem_map_of_mem (f := (·.1)) hg
      rw [← hz, zip_fst (by simp; omega)] at this
      exact this
    · unfold L2.start; rfl
    · intro j g z h1 h2
      rw [← hz] at h1
      obtain ⟨_, h3⟩ := List.getElem?_zip_eq_some.mp h1
      rw [his, List.getElem?_map] at h3
      obtain ⟨q, hq, hq2⟩ := Option.map_eq_some_iff.mp h3
      obtain ⟨rfl, _⟩ := range_get' hq
      rw [← hq2]
      unfold L2.start
      have hlt := (List.getElem?_eq_some_iff.mp h2).1
      show (List.map some (V.ref a :: y :: ys) ++ _)[q + 1]? = _
      rw [List.getElem?_append_left (by simp at hlt ⊢; omega), List.getElem?_map]
      show Option.map some ((y :: ys)[q]?) = _
      rw [h2]
      rfl
    · simp; omega
    · intro dx hdx
      rw [e1]
      obtain ⟨l2, R2⟩ := R1.fix hdx (.xd ((f :: fs').zip (y :: ys)).reverse)
      refine h _ (.ref C) (some dx) σ _ (l1.trans l2) R2 ⟨⟨C, rfl, ?_⟩, fun z => ?_, dx, _, fun _ => ⟨rfl, upd_same⟩, ?_, ?_⟩ (RE.mono (l1.trans l2))
      · rw [hG]; exact hm
      · have this := congrArg List.length hks
        rw [show ks = [] from z] at this
        simp at this
      · rw [List.map_reverse, zip_fst (by simp; omega)]
        rw [hG]
        exact hks
      · rw [List.map_reverse, zip_snd (by simp; omega)]
        exact repL_rev (rl.mono l2)
end
end Bp


set_option Elab.async false
set_option linter.all false
set_option maxRecDepth 100000
set_option maxHeartbeats 4000000
/-! Bp28: within an except suite: fields of the caught exception, isinstance, calls of leaf defs. -/
namespace Bp
open PySem L2 PyProof.Rows NdefX
open L2H (RoomH PinOk cxH inv_startH)
structure FnL (P : Program) (w : World) (K : PySem.W.Frag) (mg : Str → Option Value) (base : Heap) (k : Nat) (f : Addr) (fd : FuncData) (ps : List Str) (sp : Sp) : Prop where
  len : ∀ vs H Q E, sp vs H Q E → vs.length = ps.length
  run : ∀ (A : Around) (outer : List PySem.Env) (s : Shared) (H : Hp) (args : Args) (us : List Value) (vs : List V) (Q : VK) (p : Addr × Obj), RoomH k A → PinOk outer H s p → Env0 P w K mg base A outer s H → BindsTo s fd args (ps.zip us) → Vals vs us → sp vs H Q (fun _ _ _ => False) →
    codeAny (model P w) A (.call (.ref f) args) (CR (L2.CX P w) outer P w H s Q (fun _ _ _ => False)) s
section
variable {P : Program} {w : World} {K : PySem.W.Frag} {mg : Str → Option Value} {base : Heap}
structure DefL (P : Program) (w : World) (K : PySem.W.Frag) (mg : Str → Option Value) (base : Heap) (tn : Tn) (L : Nat) (x : Str) (n : Nat) (g : Fn) : Prop where
  ex : ∃ (f : Addr) (fd : FuncData) (ps : List Str), ps.length = n ∧ FnL P w K mg base L f fd ps (spM ⟨K, mg, tn, none⟩ n g) ∧ mg x = some (.ref f) ∧ PySem.W.keepIn K (.ref f) = true ∧ Binds K fd ps []
end
theorem Rel.up {G : Gs} {W : Wd} {S : Store} {H H' : Hp} (R : Rel G W S H) (h : ∀ a o, H a = some o → H' a = some o) : Rel G W S H' :=
  ⟨fun a o e => h _ _ (R.fr a o e), R.len, R.nd, R.off, fun n a o e1 e2 => let ⟨ho, h1, h2⟩ := R.obj n a o e1 e2; ⟨ho, h _ _ h1, h2⟩⟩
def mCallL (g : Fn) (ms : List ME) : ME := fun env S => (mArgs ms env S).bind fun ds S1 => if ds.all flatD = true then (match g ds [] with
  | .ok d [] => if flatD d = true then .ok d S1 else .bad
  | _ => .bad) else .bad
def cmpI (T : CT) (op : CmpOp) (a b : D) (S : Store) : Res D := match a, b with
  | .int i, .int j => cmpD T op (.int i) (.int j) S
  | _, _ => .bad
def mAttrX (xf : List (Nat × List Nat)) (f : Nat) (m : ME) : ME := fun env S => (m env S).bind fun o S1 => match o with
  | .xv c ks vs => if xf.contains (c, ks) = true then (match ks.idxOf? f with
    | some j => (match vs[j]? with
      | some v => .ok v S1
      | none => .bad)
    | none => .bad) else .bad
  | _ => .bad
def isiF (xf : List (Nat × List Nat)) (T : CT) : Fn := fun ds S => match ds with
  | [.xv cx ks _, c] => (match (clsTg c).bind (T.isi (.c cx)) with
    | some b => if xf.contains (cx, ks) = true then .ok (.bl b) S else .bad
    | none => .bad)
  | _ => .bad
structure XOk (K : PySem.W.Frag) (mg : Str → Option Value) (tn : Tn) (xf : List (Nat × List Nat)) : Prop where
  ok : ∀ c ks, xf.contains (c, ks) = true → ∃ C, mg (tn.nm c) = some (.ref C) ∧ ExcC K C ∧ ks.Nodup ∧ (∀ f ∈ ks, PySem.W.findIn K (.ref C) (tn.nm f) = some none) ∧ (ks.map tn.nm).Nodup
section
variable {X : Cx} {Wx : WX} {tn : Tn} {a C : Addr} {oe : Obj} {d : Option Addr} {pn : List (Addr × Obj)} {L k n : Nat} {x : Str} {g : Fn} {e : Expr} {es : List Expr} {me : ME} {ms : List ME} {p pos : Pos}
theorem bin_cmpI {fl : Pm} {T : CT} {op : CmpOp} : Bin2 fl X Wx (compareOp op) (cmpI T op) := by
  intro pins s σ H x y v u W a b S Q I rx ry R ra rb q
  unfold cmpI at q
  split at q
  · cases ra; cases rb
    unfold cmpD at q
    dsimp only at q
    split at q
    · rename_i n hn
      exact int_cmp_run I rx ry hn (q W _ H (.refl W) R (.bl n))
    · exact q.elim
  · exact q.elim
theorem lookup_nd : ∀ {fs : List (Str × V)} {j : Nat} {f : Str} {v : V}, (fs.map (·.1)).Nodup → (fs.map (·.1))[j]? = some f → (fs.map (·.2))[j]? = some v → fs.lookup f = some v
  | [], _, _, _, _, h, _ => by simp at h
  | (g, y) :: r, 0, f, v, _, h1, h2 => by
    simp at h1 h2
    subst h1 h2
    simp [List.lookup]
  | (g, y) :: r, j + 1, f, v, nd, h1, h2 => by
    simp only [List.map_cons, List.getElem?_cons_succ] at h1 h2
    simp only [List.map_cons, List.nodup_cons] at nd
    have hm : f ∈ r.map (·.1) := List.mem_of_getElem? h1
    have hne : (f == g) = false := by
      simp only [beq_eq_false_iff_ne]
      intro z
      subst z
      exact nd.1 hm
    unfold List.lookup
    rw [hne]
    exact lookup_nd nd.2 h1 h2
theorem ex_attrX {xf : List (Nat × List Nat)} (f : Nat) {nm : Str} (hf : tn.nm f = nm) (hX : XOk X.K X.mg tn xf) (hz : Zc (.ref C) d oe) (hfl : ∃ vs, oe.data = .fields vs) (he : EX ⟨tn, some (a, .ref C, d)⟩ (X.suite a ((a, oe) :: pn)) Wx e me)
    (hb : attributeBase e nm X.env (eval e X.env) = eval e X.env := by rfl) : EX ⟨tn, some (a, .ref C, d)⟩ (X.suite a ((a, oe) :: pn)) Wx (.Attribute e nm pos) (mAttrX xf f me) := by
  subst hf
  refine ⟨fun pins s σ H Q I ⟨W, env, S, R, RE, q⟩ => ?_⟩
  refine attr_of hb (thn (PE.run he pins s σ H _ I ⟨W, env, S, R, RE, Ev.seq (show Ev _ _ _ ((me env S).bind _) _ _ from q)⟩) fun u s1 ⟨x, H1, I1, rx, W1, o, S1, l1, R1, ro, q1⟩ => ?_)
  cases ro with
  | xv c ks vs a' C' dd d' fvs h hc h0 h1 hk rl =>
    dsimp only at q1
    split at q1
    case isFalse => exact q1.elim
    rename_i hxf
    split at q1
    case h_2 => exact q1.elim
    rename_i j hj
    split at q1
    case h_2 => exact q1.elim
    rename_i v0 hv0
    cases h
    obtain ⟨C2, hm2, EC, nd, hno, nd2⟩ := hX.ok c ks hxf
    have e2 : C2 = C := by
      have z := hm2.symm.trans hc
      cases z
      rfl
    subst e2
    obtain ⟨hj1, hj2, _⟩ := List.idxOf?_eq_some_iff.mp hj
    have hfk : ks[j]? = some f := by rw [List.getElem?_eq_getElem hj1]; exact congrArg some (by simpa using hj2)
    have hne : ks ≠ [] := fun z => by subst z; simp at hfk
    obtain ⟨ed, hF⟩ := h1 hne
    subst ed
    obtain rfl : u = Value.ref a := rx
    obtain ⟨v, hv, rv⟩ := rl.get hv0
    have hlook : fvs.lookup (tn.nm f) = some v := lookup_nd (by rw [hk]; exact nd2) (by rw [hk, List.getElem?_map, hfk]; rfl) hv
    obtain ⟨ha, _⟩ := I1.pin (a, oe) (List.mem_append_left _ List.mem_cons_self)
    obtain ⟨ws, hd⟩ := hfl
    obtain ⟨mA, hns, hr⟩ := (show ObjOk X.prog X.w H1 s1.heap dd (.xd fvs) from I1.hok dd _ (R1.fr _ _ hF))
    obtain ⟨od, ho, hl⟩ := lookIn_ns hns
    obtain ⟨w, hu, ru⟩ := RelO.some_of (v := v) (o := mA (tn.nm f)) (by rw [← hlook]; exact hr (tn.nm f))
    have J : PySem.W.InstAt s1.heap a oe C2 (some od) := ⟨ha, hz.1, by unfold PySem.W.notCls; rw [hd] <;> rfl, by rw [hz.2]; exact ho⟩
    exact HandSPX.exc_get I1.kIn J EC.hg EC.hk EC.hs (PySem.W.findObj_own EC.hd (hno f (List.mem_of_getElem? hfk)) rfl (by rw [hl, hu])) (handed_of ru) ⟨v, H1, I1.tok _, ru, q1 W1 v H1 (.refl W1) R1 rv⟩
  | _ => exact q1.elim
end
/-! ### isinstance of an exception that has its dict -/
section
variable {prog : Program} {w : World} {A : Around} {E : Value → Shared → Prop} {s : Shared} {K : PySem.W.Frag} {x D : Addr} {ox od : Obj}
theorem cls_of_exc {Q : Option Value → Shared → Prop} (C : ExcC K D) (X : K.In s.heap) (I : PySem.W.InstAt s.heap x ox D (some od)) (h : Q (some (.ref D)) { s with toks := s.toks + 1 }) : wpAny (model prog w) A (getAttr? (.ref x) "__class__") Q E s := by
  have hsome : (PySem.W.clsIn K D).isSome = true := by
    obtain ⟨cd, hc, _⟩ := PySem.W.any_some C.hd
    rw [hc]
    rfl
  have hf := PySem.W.findObj_data (od := od) hsome C.ha C.hn C.ht
  obtain ⟨hp, g, d, t, os⟩ := s
  have ty := I.type (M := model prog w)
  have fGa := PySem.W.looks_findIn (M := model prog w) X C.hg
  have fG := PySem.W.looks_findIn (M := model prog w) X C.hk
  have fC := PySem.W.looks_find (M := model prog w) X I hf
  have isB : PySem.W.Looks (model prog w) hp (isInstance (.ref x) (.type "BaseException")) true := ty.andThen (PySem.W.looks_subIn X C.hs)
  have n2 : (Value.builtin "BaseException.__getattribute__" == Value.builtin "object.__getattribute__") = false := by decide +kernel
  have n1 : (onTheHeap (Value.ref D) && Value.builtin "BaseException.__getattribute__" == Value.builtin "object.__getattribute__") = false := by rw [n2]; rfl
  unfold getAttr? getAttrBy? getAttrBy
  refine wpAny_bind (wpAny_mkText (wpAny_bind (wpAny_attempt (wpAny_holding (wpAny_bind (ty.at (wpAny_bind (fGa.at ?_))))))))
  show wpAny _ _ (if (onTheHeap (Value.ref D) && Value.builtin "BaseException.__getattribute__" == Value.builtin "object.__getattribute__") = true then _ else _) _ _ _
  rw [n1, if_neg Bool.false_ne_true]
  unfold getAttrByItsOwn hookBefore
  refine wpAny_bind ?_
  rw [if_pos (show onTheHeap (Value.ref D) = true from rfl)]
  refine fG.at (wpAny_bind (wpAny_attempt (wpAny_holding ?_)))
  unfold callGetattribute
  rw [show (false && onTheHeap (Value.builtin "BaseException.__getattribute__")) = false from rfl, if_neg Bool.false_ne_true]
  unfold boundAndCalled
  rw [PySem.F.excAttr_ValueError.ga.bind (.ref x)]
  refine wpAny_bind (wpAny_pure ?_)
  show wpAny _ _ (call (.builtin "BaseException.__getattribute__") [.ref x, .str "__class__" t]) _ _ _
  refine wpAny_call (codeAny_call_builtin PySem.F.excAttr_ValueError.ga.plain PySem.F.entry_bexc_ga ?_)
  refine @PySem.W.check_slot (model prog w) _ _ ⟨hp, g, d, t + 1, os⟩ "BaseException.__getattribute__" "BaseException" "__getattribute__" (.ref x) [.str "__class__" t] [] _ (by decide +kernel) (by decide +kernel) isB (PySem.F.args_bexc_ga (.ref x) (.str "__class__" t)) ?_
  unfold Builtin.«object.__getattribute__»
  refine wpAny_bind (wpAny_of_eq (a := ((Value.ref x : Value), [Value.str "__class__" t])) (by first | rfl | (simp only [slotArgs]; rfl)) ?_)
  refine wpAny_bind (wpAny_pure (wpAny_bind (ty.at (wpAny_bind (fC.at ?_)))))
  show wpAny _ _ (holding [Value.builtin "object.__class__"] (call (.builtin "getset_descriptor.__get__") [.builtin "object.__class__", .ref x, .ref D]) >>= ret) _ _ _
  refine wpAny_bind (wpAny_holding (wpAny_call (PySem.W.class_get (s := ⟨hp, g, d, t + 1, os⟩) (ox := ox) (od := some od) X I C.hm ?_)))
  refine wpAny_pure ?_
  show wpAny _ _ (handedOut (.ref D)) _ _ _
  rw [PySem.W.handedOut_of (v := .ref D) rfl]
  first
    | exact wpAny_pure (wpAny_pure h)
    | exact wpAny_pure h
    | exact wpAny_pure (wpAny_bind (wpAny_pure (wpAny_pure h)))
theorem kitx_exc (C : ExcC K D) : PySem.W.KitX K (.ref x) (.ref D) (fun h => PySem.W.InstAt h x ox D (some od)) where
  ty := fun _ _ _ I => I.type
  it := fun _ _ X _ => by
    obtain ⟨cdD, hcD, _⟩ := PySem.W.any_some C.hd
    unfold PySem.W.clsIn at hcD
    split at hcD
    · rename_i c' d' cd' sl' ho
      intro A' Q' E' s' k q
      unfold isType loadHead
      exact wpAny_bind (wpAny_loadPart (k _ _ (X _ _ ho)) (wpAny_pure q))
    · cases hcD
  ne := fun h tp dd its n sl X htp => by
    obtain ⟨cdD, hcD, _⟩ := PySem.W.any_some C.hd
    refine Bool.eq_false_iff.mpr fun q => ?_
    have e : D = tp := Value.ref.inj (beq_iff_eq.mp q)
    subst e
    unfold PySem.W.clsIn at hcD
    split at hcD
    · rename_i c' d' cd' sl' ho
      have z := (X _ _ ho).symm.trans htp
      cases z
    · cases hcD
  ca := fun X I k => cls_of_exc C X I k
end
section
variable {X : Cx} {Wx : WX} {tn : Tn} {a C : Addr} {oe : Obj} {d : Option Addr} {pn : List (Addr × Obj)} {L : Nat} {T : CT}
theorem bl_isiF {xf : List (Nat × List Nat)} (hT : T.Ok X.prog X.w X.K X.mg X.base L) (htn : T.tn = tn) (hX : XOk X.K X.mg tn xf) (hz : Zc (.ref C) d oe) (hf : ∃ vs, oe.data = .fields vs) : Blt ⟨tn, some (a, .ref C, d)⟩ (X.suite a ((a, oe) :: pn)) Wx (.builtin "isinstance") (isiF xf T) := by
  intro pins s σ H vs us W ds S Q I r R rl q
  unfold isiF at q
  split at q
  case h_2 => exact q.elim
  rename_i cx ks ws c
  cases rl with
  | cons r1 rr =>
  cases rr with
  | cons r2 rr =>
  cases rr
  split at q
  case h_2 => exact q.elim
  rename_i b hb
  split at q
  case isFalse => exact q.elim
  rename_i hxf
  obtain ⟨C2, hm2, EC, _⟩ := hX.ok cx ks hxf
  cases r1 with
  | xv _ _ _ a' C' dd d' fvs h hc h0 h1 hk rv =>
    cases h
    have e2 : C2 = C := by
      have z := hm2.symm.trans hc
      cases z
      rfl
    subst e2
    cases hcl : clsTg c with
    | none => rw [hcl] at hb; cases hb
    | some cc =>
      rw [hcl] at hb
      obtain ⟨cv, tc, kc⟩ := cls_ok r2 hcl
      have kit : PySem.W.kitOne X.K (.ref C2) cv = some b := hT.isi (.c cx) cc b hb _ _ (.c cx C2 (by rw [htn]; exact hc)) (by rw [htn]; exact tc)
      by_cases hks : ks = []
      · have hd := h0 hks
        subst hd
        exact call_isE EC hz hf pins s σ H _ us Q I r ⟨_, cv, b, rfl, fun u ru => kc.eq ru, kit, q W _ H (.refl W) R (.bl b)⟩
      · obtain ⟨ed, hF⟩ := h1 hks
        subst ed
        cases r with
        | cons rx rr =>
        cases rr with
        | cons rt rr =>
        cases rr
        cases rx
        have ec := kc.eq rt
        subst ec
        obtain ⟨hget, _⟩ := I.pin (a, oe) (List.mem_append.mpr (.inl List.mem_cons_self))
        obtain ⟨ws, hv⟩ := hf
        obtain ⟨mA, hns, hr⟩ := (show ObjOk X.prog X.w H s.heap dd (.xd fvs) from I.hok dd _ (R.fr _ _ hF))
        obtain ⟨od, ho, _⟩ := lookIn_ns hns
        have J : PySem.W.InstAt s.heap a oe C2 (some od) := ⟨hget, hz.1, by unfold PySem.W.notCls; rw [hv] <;> rfl, by rw [hz.2]; exact ho⟩
        exact PySem.W.kia_one (kitx_exc EC) I.kIn J kit (fun z => nomatch z) fun tk => ⟨.bl b, H, I.kept (t' := tk) fun _ _ z => z, rfl, q W _ H (.refl W) R (.bl b)⟩
end
end Bp


set_option Elab.async false
set_option linter.all false
set_option maxRecDepth 100000
set_option maxHeartbeats 4000000
/-! Bp29: exception classes from the head's facts. -/
namespace Bp
open PySem L2 PyProof.Rows NdefX He
section
variable {P : Program} {w : World} {K : PySem.W.Frag} {mg : Str → Option Value} {base h : Heap} {tn : Tn} {x : Str} {fs : List Str}
theorem oexCk_ok {C : Addr} (h : oexCk K C = true) : (∃ nm q N bs bm sn sub ab col dd k0 k1 k2 k3 k5, K.lookup C = some (excClassObj nm q C N bs bm true sn sub ab col dd k0 k1 k2 k3 k5 "ValueError.__new__") ∧ PySem.HandSPX.refsVE bm = true) ∧ ∃ cd, PySem.W.clsIn K C = some cd := by
  unfold oexCk at h
  split at h
  case h_2 => cases h
  rename_i oc dd cd sl ho
  obtain ⟨h1, h2⟩ := ba h
  have h1 := of_decide_eq_true h1
  split at h2
  case h_2 => cases h2
  rename_i C' bm k0 k1 k2 k3 n k5 hm hs
  obtain ⟨e1, h2⟩ := ba h2
  obtain ⟨e2, h2⟩ := ba h2
  obtain ⟨e3, h2⟩ := ba h2
  obtain ⟨e4, e5⟩ := ba h2
  have e1 := of_decide_eq_true e1
  have e2 := of_decide_eq_true e2
  subst e1 e2 h1
  obtain ⟨nm, bs, mro, ns, qn, hd, sn, sub, ab, col, del⟩ := cd
  simp only [Bool.not_eq_true'] at e3
  dsimp only at hm e3 e4
  subst hm e3 e4
  have hsl : sl = #[k0, k1, k2, k3, some (.builtin "ValueError.__new__"), k5] := by
    obtain ⟨l⟩ := sl
    simp only at hs
    rw [hs]
  subst hsl
  exact ⟨⟨nm, qn, ns, bs, bm, sn, sub, ab, col, dd, k0, k1, k2, k3, k5, ho, e5⟩, _, by unfold PySem.W.clsIn; rw [ho]⟩
structure XF (K : PySem.W.Frag) (x : Str) (fs : List Str) : Prop where
  cl : XclsK K (ga K x)
  ini : PySem.W.findIn K (.ref (ga K x)) "__init__" = some (some (.ref (ma K (ga K x) "__init__")))
  ty : PySem.W.typeIn K (.ref (ma K (ga K x) "__init__")) = some (.type "function")
  st : PySem.W.nsIn K cStatics "thirdparty.any" = some none
  cd : ∃ cd, PySem.W.clsIn K (ga K x) = some cd
  no : ∀ f ∈ fs, PySem.W.findIn K (.ref (ga K x)) f = some none
theorem xf_ok (h : xclsCk K x fs = true) : XF K x fs := by
  obtain ⟨h1, h⟩ := ba h
  obtain ⟨h2, h⟩ := ba h
  obtain ⟨h3, h⟩ := ba h
  obtain ⟨h4, h⟩ := ba h
  obtain ⟨h5, h⟩ := ba h
  obtain ⟨h6, h⟩ := ba h
  obtain ⟨h7, h⟩ := ba h
  obtain ⟨h8, h⟩ := ba h
  obtain ⟨h9, h⟩ := ba h
  obtain ⟨h10, h⟩ := ba h
  obtain ⟨h11, h⟩ := ba h
  obtain ⟨h12, h13⟩ := ba h
  obtain ⟨o1, o2⟩ := oexCk_ok h1
  have h3 := of_decide_eq_true h3
  unfold excCk at h6
  obtain ⟨g1, h6⟩ := ba h6
  obtain ⟨g2, h6⟩ := ba h6
  obtain ⟨g3, h6⟩ := ba h6
  obtain ⟨g4, h6⟩ := ba h6
  obtain ⟨g5, h6⟩ := ba h6
  obtain ⟨g6, g7⟩ := ba h6
  refine ⟨⟨⟨o1, eqO_ok h2, h3, of_decide_eq_true h4, h5⟩, ⟨eqO_ok g1, eqO_ok g2, h3, g3, eqO_ok g4, eqO_ok g5, of_decide_eq_true g6, of_decide_eq_true g7⟩, of_decide_eq_true h7, eqO_ok h8, of_decide_eq_true h9⟩, eqO_ok h10, of_decide_eq_true h11, eqO_ok h12, o2, fun f hf => eqO_ok (List.all_eq_true.mp h13 f hf)⟩
theorem ExcMk.of {L c n : Nat} {ks : List Nat} {m : Str} {is : List Nat} {fd : FuncData} {N ps : List Str} (h : xclsCk K x fs = true) (hc : tn.nm c = x) (hg : mg x = some (.ref (ga K x))) (F : FnOk P w K mg base (L2.CX P w) L (ma K (ga K x) "__init__") fd ps (spT N ps (tXin K (ga K x) m (fs.zip is)))) (hb : Binds K fd ps [])
    (hks : fs.reverse = ks.map tn.nm) (hn : fs.length = n) (his : is = (List.range n).map (· + 1)) (h0 : 0 < n) (h8 : n ≤ 800) (hps : ps.length = n + 1) : ExcMk P w K mg base tn L c n ks := by
  have X := xf_ok h
  exact ⟨_, _, fd, N, ps, fs, m, is, by rw [hc]; exact hg, X.cl, X.ini, X.ty, F, hb, hks, X.no, hn, his, h0, h8, hps⟩
theorem XOk.nil : XOk K mg tn [] := ⟨fun c ks h => by simp at h⟩
theorem XOk.cons {xf : List (Nat × List Nat)} {c : Nat} {ks : List Nat} (h : xclsCk K x fs = true) (hc : tn.nm c = x) (hg : mg x = some (.ref (ga K x))) (hks : fs.reverse = ks.map tn.nm) (nd : ks.Nodup) (nd2 : (ks.map tn.nm).Nodup) (r : XOk K mg tn xf) : XOk K mg tn ((c, ks) :: xf) := ⟨fun c' ks' h' => by
  have X := xf_ok h
  rw [List.contains_cons, Bool.or_eq_true] at h'
  rcases h' with e | e
  · have e := eq_of_beq e
    cases e
    refine ⟨_, by rw [hc]; exact hg, X.cl.ec, nd, fun f hf => X.no _ ?_, nd2⟩
    have := List.mem_map_of_mem (f := tn.nm) hf
    rw [← hks] at this
    exact List.mem_reverse.mp this
  · exact r.ok c' ks' e⟩
theorem DefL.of {L n : Nat} {g : Fn} {f : Addr} {fd : FuncData} {ps : List Str} (F : FnL P w K mg base L f fd ps (spM ⟨K, mg, tn, none⟩ n g)) (hg : mg x = some (.ref f)) (hk : PySem.W.keepIn K (.ref f) = true) (hn : ps.length = n) (hb : Binds K fd ps []) : DefL P w K mg base tn L x n g := ⟨f, fd, ps, hn, F, hg, hk, hb⟩
end
end Bp


set_option Elab.async false
set_option linter.all false
set_option maxRecDepth 100000
set_option maxHeartbeats 4000000
/-! Bp30: == and != of nested lists and tuples of plain things. -/
namespace Bp
open PySem L2 PyProof.Rows He
mutual
def pyN : D → Option PyData
  | .tup xs => (pyNL xs).map .tuple
  | .rl xs => (pyNL xs).map .list
  | .non => some .none
  | .bl b => some (.bool b)
  | .int i => some (.int i)
  | .str z => some (.str z)
  | .ty _ => none
  | .glob _ => none
  | .ins _ _ => none
  | .ref _ => none
  | .xv _ _ _ => none
  | .rk _ _ => none
  | .sc _ => none
def pyNL : List D → Option (List PyData)
  | [] => some []
  | d :: ds => match pyN d, pyNL ds with
    | some p, some ps => some (p :: ps)
    | _, _ => none
end
mutual
theorem pyN_ok {G : Gs} {W : Wd} {H : Hp} (fr : ∀ a o, W.F a = some o → H a = some o) : ∀ (d : D) {v : V} {p : PyData}, RepV G W d v → pyN d = some p → Dp G.K H v p
  | .tup xs, v, p, r, h => by
    cases r with
    | tup _ vs a hA rv =>
      unfold pyN at h
      obtain ⟨ps, e, rfl⟩ := Option.map_eq_some_iff.mp h
      exact .tup (hA.sqt fr) (pyNL_ok fr xs rv e)
  | .rl xs, v, p, r, h => by
    cases r with
    | rl _ vs a hA rv =>
      unfold pyN at h
      obtain ⟨ps, e, rfl⟩ := Option.map_eq_some_iff.mp h
      exact .lst (.inl (.inl (fr _ _ hA))) (pyNL_ok fr xs rv e)
  | .non, v, p, r, h => by cases r; unfold pyN at h; cases h; exact .non
  | .bl b, v, p, r, h => by cases r; unfold pyN at h; cases h; exact .bl b
  | .int i, v, p, r, h => by cases r; unfold pyN at h; cases h; exact .int i
  | .str z, v, p, r, h => by cases r; unfold pyN at h; cases h; exact .str z
  | .ty _, v, p, r, h => by unfold pyN at h; cases h
  | .glob _, v, p, r, h => by unfold pyN at h; cases h
  | .ins _ _, v, p, r, h => by unfold pyN at h; cases h
  | .ref _, v, p, r, h => by unfold pyN at h; cases h
  | .xv _ _ _, v, p, r, h => by unfold pyN at h; cases h
  | .rk _ _, v, p, r, h => by unfold pyN at h; cases h
  | .sc _, v, p, r, h => by unfold pyN at h; cases h
theorem pyNL_ok {G : Gs} {W : Wd} {H : Hp} (fr : ∀ a o, W.F a = some o → H a = some o) : ∀ (ds : List D) {vs : List V} {ps : List PyData}, RepL G W ds vs → pyNL ds = some ps → DpAll G.K H vs ps
  | [], vs, ps, r, h => by cases r; unfold pyNL at h; cases h; exact .nil
  | d :: ds, vs, ps, r, h => by
    cases r with
    | cons r1 r2 =>
      unfold pyNL at h
      split at h
      · rename_i p qs e1 e2
        cases h
        exact .cons (pyN_ok fr d r1 e1) (pyNL_ok fr ds r2 e2)
      · cases h
end
def cmpDN (neg : Bool) (a b : D) (S : Store) : Res D := match pyN a, pyN b with
  | some p, some q => if SeqAt.shaped p = true ∧ SeqAt.shaped q = true then .ok (.bl (if neg then !PyData.eqv p q else PyData.eqv p q)) S else .bad
  | _, _ => .bad
section
variable {fl : Pm} {X : Cx} {Wx : WX} {k : Nat}
end
/-! the pure side: data that are alike -/
end Bp


set_option Elab.async false
set_option linter.all false
set_option maxRecDepth 100000
set_option maxHeartbeats 4000000
/-! Bp31: all(..), any(..), sum(..) of lists. -/
namespace Bp
open PySem L2 PyProof.Rows He
def blsD : List D → Option (List Bool)
  | [] => some []
  | .bl b :: ds => (blsD ds).map (b :: ·)
  | _ :: _ => none
def intsD : List D → Option (List Int)
  | [] => some []
  | .int i :: ds => (intsD ds).map (i :: ·)
  | _ :: _ => none
def allD : Fn := fun ds S => match ds with
  | [.rl xs] => (match blsD xs with
    | some bs => .ok (.bl (bs.all id)) S
    | none => .bad)
  | _ => .bad
def anyD : Fn := fun ds S => match ds with
  | [.rl xs] => (match blsD xs with
    | some bs => .ok (.bl (bs.any id)) S
    | none => .bad)
  | _ => .bad
def sumD : Fn := fun ds S => match ds with
  | [.rl xs] => (match intsD xs with
    | some bs => .ok (.int bs.sum) S
    | none => .bad)
  | _ => .bad
section
variable {fl : Pm} {X : Cx} {Wx : WX}
def repD (a b : D) (S : Store) : Res D := match a, b with
  | .rl xs, .int k => if 0 ≤ k ∧ k ≤ 1000 ∧ xs.length ≤ 1000 then .ok (.ref S.length) (S ++ [.lst (List.replicate k.toNat xs).flatten]) else .bad
  | _, _ => .bad
end
end Bp


set_option Elab.async false
set_option linter.all false
set_option maxRecDepth 100000
set_option maxHeartbeats 4000000
/-! Bp32: list.pop(). -/
namespace Bp
open PySem L2 PyProof.Rows He
def popD : Fn := fun ds S => match ds with
  | [.ref n] => (match S[n]? with
    | some (.lst xs) => (match xs[xs.length - 1]? with
      | some y => .ok y (S.set n (.lst xs.dropLast))
      | none => .bad)
    | _ => .bad)
  | _ => .bad
section
variable {fl : Pm} {X : Cx} {Wx : WX}
def cmpX (T : CT) (op : CmpOp) (a b : D) (S : Store) : Res D := match a, b with
  | .int i, .int j => cmpI T op (.int i) (.int j) S
  | .str x, .str y => (match op with
    | .Eq => .ok (.bl (decide (x = y))) S
    | _ => .bad)
  | _, _ => .bad
theorem bin_cmpX {T : CT} {op : CmpOp} : Bin2 fl X Wx (compareOp op) (cmpX T op) := by
  intro pins s σ H x y v u W a b S Q I rx ry R ra rb q
  unfold cmpX at q
  split at q
  · exact bin_cmpI (T := T) pins s σ H x y v u W _ _ S Q I rx ry R ra rb q
  · rename_i z1 z2
    cases ra; cases rb
    split at q
    · exact op_eq pins s σ H _ _ v u Q I rx ry ⟨rfl, by rw [show decide (V.str z1 = V.str z2) = decide (z1 = z2) by simp]; exact q W _ H (.refl W) R (.bl _)⟩
    · exact q.elim
  · exact q.elim
end
end Bp


set_option Elab.async false
set_option linter.all false
set_option maxRecDepth 100000
set_option maxHeartbeats 4000000
/-! Bp33: a, b = x, y and a, b, c = x, y, z with plain local names. -/
namespace Bp
open PySem L2 PyProof.Rows He
def mPar2 (i j : Nat) (a b : ME) : MS := fun env S => onR (mArgs [a, b] env S) env fun ds S' => match ds with
  | [x, y] => .nx ((env.set i (some x)).set j (some y)) S'
  | _ => .bad
def mPar3 (i j l : Nat) (a b c : ME) : MS := fun env S => onR (mArgs [a, b, c] env S) env fun ds S' => match ds with
  | [x, y, z] => .nx (((env.set i (some x)).set j (some y)).set l (some z)) S'
  | _ => .bad
section
variable {X : Cx} {fl : Pm} {Wx : WX} {ma mb mc : ME}
end
end Bp
namespace Bp
theorem plain_nil : ∀ g ∈ ([] : List MG), Plain g := fun _ h => nomatch h
theorem plain_cons {g : MG} {gs : List MG} (h : Plain g) (hs : ∀ x ∈ gs, Plain x) : ∀ x ∈ g :: gs, Plain x := fun x hx => by
  rcases List.mem_cons.mp hx with rfl | hx
  · exact h
  · exact hs x hx
end Bp


set_option Elab.async false
set_option linter.all false
set_option maxRecDepth 100000
set_option maxHeartbeats 4000000
/-! Bp34: return super().m(..) op e; xs[::-1]. -/
namespace Bp
open PySem L2 PyProof.Rows NdefX He
section
variable {fl : Pm} {X : Cx} {Wx : WX} {cd : Code} {ma mb me : ME} {a b e : Expr} {pos : Pos}
end
end Bp
namespace Bp
open PySem L2 PyProof.Rows NdefX He
section
variable {fl : Pm} {X : Cx} {Wx : WX} {me : ME} {e : Expr} {pos : Pos}
def revD (d : D) (S : Store) : Res D := match d with
  | .rl xs => .ok (.ref S.length) (S ++ [.lst xs.reverse])
  | .sc xs => .ok (.ref S.length) (S ++ [.lst xs.reverse])
  | .ref n => (match S[n]? with
    | some (.lst xs) => .ok (.ref S.length) (S ++ [.lst xs.reverse])
    | _ => .bad)
  | _ => .bad
def mRev (m : ME) : ME := fun env S => (m env S).bind revD
end
end Bp


set_option Elab.async false
set_option linter.all false
set_option maxRecDepth 100000
set_option maxHeartbeats 4000000
/-! Bp35: defs that call themselves. -/
namespace Bp
open PySem L2 PyProof.Rows NdefX He
end Bp


set_option Elab.async false
set_option linter.all false
set_option maxRecDepth 100000
set_option maxHeartbeats 4000000
/-! Bp36: range(i, j, -1). -/
namespace Bp
open PySem L2 PyProof.Rows NdefX
section
variable {fl : Pm} {X : Cx} {Wx : WX} {a b c : Expr} {ma mb mc : ME} {pos : Pos}
def rangeN (lo : Int) (n : Nat) : List D := (List.range n).map fun i => .int (lo + (i : Nat) * (-1))
def itR3 (ds : List D) (S : Store) : Res Wk := match ds with
  | [.int i, .int j, .int k] => if k = -1 ∧ -(2 ^ 62) ≤ i ∧ i < 2 ^ 62 ∧ -(2 ^ 62) ≤ j ∧ j < 2 ^ 62 then .ok (.items (rangeN i (i - j).toNat)) S else .bad
  | _ => .bad
def iRange3 (m1 m2 m3 : ME) : Env → Store → Res Wk := fun env S => (mArgs [m1, m2, m3] env S).bind itR3
end
end Bp


set_option Elab.async false
set_option linter.all false
set_option maxRecDepth 100000
set_option maxHeartbeats 4000000
/-! Bp37: x in y, x not in y: y a frozen list of nested lists and tuples. -/
namespace Bp
open PySem L2 PyProof.Rows NdefX
def inDN (neg : Bool) (x y : D) (S : Store) : Res D := match pyN x, pyN y with
  | some p, some (.list ds) => if SeqAt.shaped p = true ∧ SeqAt.shaped (.list ds) = true then .ok (.bl (if neg then !ds.any (fun z => PyData.eqv z p) else ds.any (fun z => PyData.eqv z p))) S else .bad
  | _, _ => .bad
section
variable {fl : Pm} {X : Cx} {Wx : WX} {k : Nat}
end
end Bp


set_option Elab.async false
set_option linter.all false
set_option maxRecDepth 100000
set_option maxHeartbeats 4000000
/-! Bp38: instances that are subscripted, searched and called; list.clear, list.pop(i), str.upper. -/
namespace Bp
open PySem L2 PyProof.Rows He
section
variable {fl : Pm} {X : Cx} {Wx : WX} {T : CT} {L k : Nat} {x : Str} {p pos pos' apos cpos : Pos} {e a b o i fe : Expr} {es : List Expr} {me mo mi mf : ME} {ms : List ME}
/-! ### o[i] by the class's own __getitem__ -/
def igD (T : CT) (m : Nat) (o i : D) (S : Store) : Res D := match o with
  | .ins c xs => dund T c m [.ins c xs, i] S
  | _ => .bad
/-! ### x in o by the class's own __contains__ -/
def inI (T : CT) (m : Nat) (x o : D) (S : Store) : Res D := match o with
  | .ins c xs => onlyB (dund T c m [.ins c xs, x] S)
  | _ => .bad
/-! ### f(e, ..), f an instance whose class has its own __call__ -/
def mCallI (T : CT) (m : Nat) (mf : ME) (ms : List ME) : ME := fun env S => (mf env S).bind fun o S1 => match o with
  | .ins c xs => (mArgs ms env S1).bind fun vs S2 => dund T c m (.ins c xs :: vs) S2
  | _ => .bad
end
/-! ### list(o) by the class's own __iter__, which returns iter of a field that holds a tuple -/
section
variable {prog : Program} {w : World} {A : Around} {E : Value → Shared → Prop} {s : Shared} {it l u : Addr} {i : Nat} {items : Array Value}
end
def ItT (l it : Addr) (i : Nat) : HO := .ext fun h => IsTupIter h it l i
def ItD (it : Addr) : HO := .ext fun h => ∃ o, h.get? it = some o
def rIterT (K : PySem.W.Frag) : List V → Hp → VK → Prop := fun xs H Q => ∃ (l : Addr) (zs : List V), xs = [.ref l] ∧ SqT K H l zs ∧ ∀ it, H it = none → Q (.ref it) (upd H it (ItT l it 0))
def spIt (K : PySem.W.Frag) (fld : Str) : Sp := fun vs H Q _ => ∃ (a C dx : Addr) (fs : List (Str × V)) (l : Addr) (zs : List V), vs = [.ref a] ∧ H a = some (.ins C dx fs) ∧ Cls K C ∧ NoAttr K C fld ∧ fs.lookup fld = some (.ref l) ∧ SqT K H l zs ∧
  ∀ it, H it = none → Q (.ref it) (upd H it (ItT l it 0))
section
variable {X : Cx}
end
section
variable {P : Program} {w : World} {K : PySem.W.Frag} {mg : Str → Option Value} {base : Heap}
end
structure ItOk (P : Program) (w : World) (K : PySem.W.Frag) (mg : Str → Option Value) (base : Heap) (tn : Tn) (L : Nat) (c k : Nat) : Prop where
  ex : ∃ (C fi : Addr) (fd : FuncData), ClsF K mg tn c C ∧ Meth K C "__iter__" fi ∧ FnOk P w K mg base (L2.CX P w) L fi fd ["self"] (spIt K (tn.nm k)) ∧ Binds K fd ["self"] [] ∧
    PySem.W.findIn K (.ref C) "__len__" = some none ∧ PySem.W.findIn K (.ref C) "__length_hint__" = some none ∧ NoAttr K C (tn.nm k)
theorem ItOk.mono {P : Program} {w : World} {K : PySem.W.Frag} {mg : Str → Option Value} {base : Heap} {tn : Tn} {L L' c k : Nat} (h : ItOk P w K mg base tn L c k) (l : L ≤ L') : ItOk P w K mg base tn L' c k :=
  let ⟨C, fi, fd, h1, h2, h3, h4⟩ := h.ex
  ⟨C, fi, fd, h1, h2, h3.mono l, h4⟩
def listI (T : CT) (ci k : Nat) : Fn := fun ds S => match ds with
  | [.ins c xs] => if c = ci then (match (T.tn.fl c).idxOf? k with
    | some i => (match xs[i]? with
      | some (.tup ys) => .ok (.ref S.length) (S ++ [.lst ys])
      | _ => .bad)
    | none => .bad) else .bad
  | _ => .bad
section
variable {fl : Pm} {X : Cx} {Wx : WX} {T : CT} {L k : Nat}
end
theorem ItOk.of {P : Program} {w : World} {K : PySem.W.Frag} {mg : Str → Option Value} {base : Heap} {T : CT} {L L' c k : Nat} {x fld : Str} {fd : FuncData} (hT : T.Ok P w K mg base L') (hk : T.kn c = true) (hx : T.tn.nm c = x) (hg : mg x = some (.ref (ga K x))) (hM : (Fa.meth x "__iter__").ok K = true)
    (hc : (decide (PySem.W.findIn K (.ref (ga K x)) "__len__" = some none) && decide (PySem.W.findIn K (.ref (ga K x)) "__length_hint__" = some none)) = true) (hno : T.no c k = true) (hf : T.tn.nm k = fld) (F : FnOk P w K mg base (L2.CX P w) L (ma K (ga K x) "__iter__") fd ["self"] (spIt K fld)) (hb : Binds K fd ["self"] []) : ItOk P w K mg base T.tn L c k := by
  subst hf
  obtain ⟨C, cl⟩ := hT.cls c hk
  have hC : C = ga K x := ga_uniq hg (by rw [← hx]; exact cl.mg)
  subst hC
  have c2 := Bool.and_eq_true_iff.mp hc
  exact ⟨_, _, fd, cl, meth_ok hM, F, hb, of_decide_eq_true c2.1, of_decide_eq_true c2.2, hT.no c k hno _ cl⟩
/-! ### list.clear, str.upper -/
def clearD : Fn := fun ds S => match ds with
  | [.ref n] => (match S[n]? with
    | some (.lst _) => .ok .non (S.set n (.lst []))
    | _ => .bad)
  | _ => .bad
def upperD : Fn := fun ds S => match ds with
  | [.str z] => if z.length ≤ 5592405 then .ok (.str (Txt.upper z)) S else .bad
  | _ => .bad
section
variable {fl : Pm} {X : Cx} {Wx : WX}
end
/-! ### a def with defaults and super(): how many are given -/
section
variable {K : PySem.W.Frag} {x qual file : Str} {params : Arguments} {body : List Stmt} {scope : Scope} {dcls f : Addr} {fd : FuncData} {dvs : List V} {kws : List (Str × V)} {ps : List Str}
theorem FunS.binds1 (F : FunS K x qual params body scope dcls dvs kws file f fd) (n j : Nat) (hd : dvs ≠ []) (hn : n + (dvs.length - j) = ps.length)
    (h : ∀ (T : Addr) (kV doc pm : Value) (an : Option Addr) (cdv ct : Value) (cc : Addr) (us its : List Value), us.length = n → its.length = dvs.length → ∃ k, bindArgs (PySem.W.fnX x qual params body scope [("__class__", cc)] (.ref T) kV doc pm an cdv ct) ⟨us, []⟩ = seqItems? (.ref T) >>= k ∧ k (some its.toArray) = pure (ps.zip (us ++ its.drop j))) : ∃ ds, Vals (dvs.drop j) ds ∧ Binds K fd ps ds := by
  obtain ⟨oc, od, dV, kV, doc, pm, an, c, cc, ct, osl, oC, oK, vs, tf, rfl, lk, hcd, hD, _⟩ := F.ex
  rcases hD with ⟨e, _⟩ | ⟨_, T, o, its, m, rfl, lT, oT, rT⟩
  · exact absurd e hd
  · refine ⟨its.drop j, rT.drop j, fun s us X hlen => ?_⟩
    have l1 : its.length = dvs.length := rT.length.symm
    have l2 : us.length = n := by
      rw [List.length_append, List.length_drop, l1] at hlen
      omega
    obtain ⟨k, e1, e2⟩ := h T kV doc pm an (.ref c) ct cc us its l2 l1
    refine BindsTo.of_looks fun M => ?_
    rw [e1]
    exact looks_items X lT oT (PySem.W.Looks.of_pure e2)
end
end Bp


set_option Elab.async false
set_option linter.all false
set_option maxRecDepth 100000
set_option maxHeartbeats 4000000
/-! Bp39: texts: prefixes, partition, split, digits, int of a text, text times int, f-strings; static methods called on their class. -/
namespace Bp
open PySem L2 PyProof.Rows He
def rmpD : Fn := fun ds S => match ds with
  | [.str a, .str b] => if a.length ≤ sizeLine then .ok (.str (Txt.removeprefix a b)) S else .bad
  | _ => .bad
def parD : Fn := fun ds S => match ds with
  | [.str a, .str b] => if (b.length == 0) = false ∧ a.length ≤ sizeLine then .ok (.tup [.str (Txt.partition a b).1, .str (Txt.partition a b).2.1, .str (Txt.partition a b).2.2]) S else .bad
  | _ => .bad
def splD : Fn := fun ds S => match ds with
  | [.str a, .str b] => if (b.length == 0) = false ∧ a.length + 2 ≤ sizeLine then .ok (.ref S.length) (S ++ [.lst ((Txt.split a b).map .str)]) else .bad
  | _ => .bad
def isdD : Fn := fun ds S => match ds with
  | [.str a] => .ok (.bl (Txt.isdigit a)) S
  | _ => .bad
def intXD : Fn := fun ds S => match ds with
  | [.str a] => if a.length ≤ 640 then (match PySem.intText? a with
    | some n => .ok (.int n) S
    | none => .bad) else .bad
  | ds => intD ds S
def mulS (x n : D) (S : Store) : Res D := match x, n with
  | .str a, .int n => if 0 < n ∧ n < 1000000 ∧ 0 < a.length ∧ a.length * n.toNat ≤ 1000000 then .ok (.str (Txt.mul a n)) S else .bad
  | _, _ => .bad
section
variable {fl : Pm} {X : Cx} {Wx : WX}
theorem repL_strs {G : Gs} {W : Wd} : ∀ (ys : List Str), RepL G W (ys.map .str) (ys.map V.str)
  | [] => .nil
  | y :: ys => .cons (.str y) (repL_strs ys)
theorem bl_rmp : Blt fl X Wx (.builtin "str.removeprefix") rmpD := by
  intro pins s σ H vs us W ds S Q I r R rl q
  unfold rmpD at q
  split at q
  case h_2 => exact q.elim
  rename_i a b
  split at q
  case isFalse => exact q.elim
  rename_i hz
  cases rl with
  | cons r1 rr =>
  cases rr with
  | cons r2 rr =>
  cases rr
  cases r1; cases r2
  cases r with
  | cons u1 ur =>
  exact mt_removeprefix pins s σ H _ _ _ _ Q I u1 ur ⟨a, b, rfl, rfl, hz, q W _ H (.refl W) R (.str _)⟩
theorem bl_par : Blt fl X Wx (.builtin "str.partition") parD := by
  intro pins s σ H vs us W ds S Q I r R rl q
  unfold parD at q
  split at q
  case h_2 => exact q.elim
  rename_i a b
  split at q
  case isFalse => exact q.elim
  rename_i hz
  cases rl with
  | cons r1 rr =>
  cases rr with
  | cons r2 rr =>
  cases rr
  cases r1; cases r2
  cases r with
  | cons u1 ur =>
  refine mt_partition pins s σ H _ _ _ _ Q I u1 ur ⟨a, b, rfl, rfl, hz.1, hz.2, fun p hp => ?_⟩
  obtain ⟨l2, R2⟩ := R.fix hp (.tup [.str (Txt.partition a b).1, .str (Txt.partition a b).2.1, .str (Txt.partition a b).2.2])
  exact q _ (.ref p) _ l2 R2 (.tup _ _ p (.inl upd_same) (.cons (.str _) (.cons (.str _) (.cons (.str _) .nil))))
theorem bl_spl : Blt fl X Wx (.builtin "str.split") splD := by
  intro pins s σ H vs us W ds S Q I r R rl q
  unfold splD at q
  split at q
  case h_2 => exact q.elim
  rename_i a b
  split at q
  case isFalse => exact q.elim
  rename_i hz
  cases rl with
  | cons r1 rr =>
  cases rr with
  | cons r2 rr =>
  cases rr
  cases r1; cases r2
  cases r with
  | cons u1 ur =>
  refine mt_split pins s σ H _ _ _ _ Q I u1 ur ⟨a, b, rfl, rfl, hz.1, hz.2, fun p hp => ?_⟩
  have lw : Le W ⟨W.F, W.μ ++ [p], W.xs⟩ := ⟨fun _ _ e => e, List.prefix_append _ _, List.prefix_rfl⟩
  obtain ⟨l4, R4⟩ := R.new hp (o := .lst ((Txt.split a b).map .str)) (ho := .lst ((Txt.split a b).map V.str)) (.lst _ _ (repL_strs _))
  exact q _ _ _ l4 R4 (.ref _ _ (by show (W.μ ++ [p])[S.length]? = some p; rw [← R.len]; simp))
theorem bl_isd : Blt fl X Wx (.builtin "str.isdigit") isdD := by
  intro pins s σ H vs us W ds S Q I r R rl q
  unfold isdD at q
  split at q
  case h_2 => exact q.elim
  rename_i a
  cases rl with
  | cons r1 rr =>
  cases rr
  cases r1
  cases r with
  | cons u1 ur =>
  cases ur
  exact mt_isdigit pins s σ H _ _ _ _ Q I u1 .nil ⟨a, rfl, rfl, trivial, q W _ H (.refl W) R (.bl _)⟩
theorem bl_intX : Blt fl X Wx (.type "int") intXD := by
  intro pins s σ H vs us W ds S Q I r R rl q
  unfold intXD at q
  split at q
  · rename_i a
    split at q
    case isFalse => exact q.elim
    rename_i hz
    split at q
    case h_2 => exact q.elim
    rename_i n hn
    cases rl with
    | cons r1 rr =>
    cases rr
    cases r1
    exact call_int_str pins s σ H _ us Q I r ⟨a, n, rfl, hn, hz, q W _ H (.refl W) R (.int _)⟩
  · exact bl_int pins s σ H vs us W ds S Q I r R rl q
theorem bin_mulS : Bin2 fl X Wx (binaryOp .Mult) mulS := by
  intro pins s σ H x y v u W a b S Q I rx ry R ra rb q
  unfold mulS at q
  split at q
  case h_2 => exact q.elim
  rename_i z n
  split at q
  case isFalse => exact q.elim
  rename_i h
  obtain ⟨h1, h2, h3, h4⟩ := h
  cases ra; cases rb
  obtain ⟨t, rfl⟩ := rx
  obtain ⟨t', rfl⟩ := ry
  refine SB.mul ⟨?_, fun _ _ => ?_, fun _ _ => ?_⟩ fun t2 k => ⟨.str (Txt.mul z n), H, I.tok _, ⟨t2, rfl⟩, q W _ H (.refl W) R (.str _)⟩
  · have e1 : decide (n < -(2 ^ 63 : Int)) = false := decide_eq_false (by omega)
    have e2 : decide (n ≥ 2 ^ 63) = false := decide_eq_false (by omega)
    rw [e1, e2]; rfl
  · have : (2 ^ 63 - 1 : Int) / n ≥ 1000000 := Int.le_ediv_of_mul_le h1 (by omega)
    have h5 : z.length ≤ 1000000 := Nat.le_trans (Nat.le_mul_of_pos_right _ (by omega)) h4
    omega
  · exact decide_eq_false (Nat.not_lt.mpr (Nat.le_trans h4 (by rw [sizeLine_eq]; decide)))
/-! ### f-strings -/
def fmtD (d : D) (S : Store) : Res D := match d with
  | .str z => if z.length ≤ sizeLine then .ok (.str z) S else .bad
  | .int i => if i.natAbs.log2 < 1920 then .ok (.str (toString i)) S else .bad
  | _ => .bad
def mJs : List ME → Str → Env → Store → Res D
  | [], acc, _, S => .ok (.str acc) S
  | m :: ms, acc, env, S => (m env S).bind fun d S1 => match d with
    | .str y => if (acc ++ y).length ≤ sizeLine then mJs ms (acc ++ y) env S1 else .bad
    | _ => .bad
def mJoin (ms : List ME) : ME := fun env S => mJs ms Str.empty env S
theorem ex_fmt {e : Expr} {me : ME} {pos : Pos} (he : EX fl X Wx e me) : EX fl X Wx (.FormattedValue e (-1) none pos) (mUn fmtD me) := by
  refine PE.imp (pe_fmt he) fun σ H Q ⟨W, env, S, R, RE, q⟩ => ⟨W, env, S, R, RE, Ev.imp (Ev.seq q) fun v H1 ⟨W1, d1, S1, l1, R1, ra, q1⟩ => ?_⟩
  unfold fmtD at q1
  split at q1
  · rename_i z
    split at q1
    · rename_i hz
      cases ra
      exact .inl ⟨z, rfl, hz, q1 W1 _ H1 (.refl W1) R1 (.str _)⟩
    · exact q1.elim
  · rename_i i
    split at q1
    · rename_i hz
      cases ra
      exact .inr ⟨i, rfl, hz, q1 W1 _ H1 (.refl W1) R1 (.str _)⟩
    · exact q1.elim
  · exact q1.elim
inductive EJ (fl : Pm) (X : Cx) (Wx : WX) : List Expr → List ME → Prop where
  | nil : EJ fl X Wx [] []
  | cons {e : Expr} {m : ME} {es : List Expr} {ms : List ME} (h : EX fl X Wx e m) (r : EJ fl X Wx es ms) : EJ fl X Wx (e :: es) (m :: ms)
def teM (fl : Pm) (X : Cx) (Wx : WX) (m : ME) : TE := fun σ H Q => ∃ W env S, Rel (gx X fl) W S H ∧ RepE (gx X fl) fl.x W env σ ∧ Ev (RepV (gx X fl)) (gx X fl) W (m env S) Q (fun c d H => Wx c d σ H)
theorem EJ.pj {es : List Expr} {ms : List ME} (h : EJ fl X Wx es ms) : PJ X es (ms.map (teM fl X Wx)) := by
  induction h with
  | nil => exact .nil
  | cons h r ih => exact .cons h ih
theorem js_ok : ∀ (ms : List ME) (acc : Str) (σ : L2.St) (H : Hp) (Q : VK) (W : Wd) (env : Env) (S : Store), Rel (gx X fl) W S H → RepE (gx X fl) fl.x W env σ → Ev (RepV (gx X fl)) (gx X fl) W (mJs ms acc env S) Q (fun c d H => Wx c d σ H) →
    tJs (ms.map (teM fl X Wx)) acc σ H fun out H1 => Q (.str out) H1
  | [], acc, σ, H, Q, W, env, S, R, RE, q => q W _ H (.refl W) R (.str _)
  | m :: ms, acc, σ, H, Q, W, env, S, R, RE, q => by
    refine ⟨W, env, S, R, RE, Ev.imp (Ev.seq (show Ev _ _ _ ((m env S).bind _) _ _ from q)) fun v H1 ⟨W1, d1, S1, l1, R1, ra, q1⟩ => ?_⟩
    split at q1
    case h_2 => exact q1.elim
    rename_i y
    split at q1
    case isFalse => exact q1.elim
    rename_i hz
    cases ra
    exact ⟨y, rfl, hz, js_ok ms (acc ++ y) σ H1 Q W1 env S1 R1 (RE.mono l1) q1⟩
theorem ex_join {v1 v2 : Expr} {rest : List Expr} {ms : List ME} {pos : Pos} (h : EJ fl X Wx (v1 :: v2 :: rest) ms) : EX fl X Wx (.JoinedStr (v1 :: v2 :: rest) pos) (mJoin ms) :=
  PE.imp (pe_joined h.pj) fun σ H Q ⟨W, env, S, R, RE, q⟩ => js_ok ms Str.empty σ H Q W env S R RE q
/-! ### C.m(e, ..), m a static method -/
def smCk (K : PySem.W.Frag) (c m : Str) : Bool := PySem.W.readsIn K (ga K c) (.type "type") && ((match PySem.W.findCls K (.ref (ga K c)) (.type "type") m with
    | some (.get (.builtin g) (.ref p) .none (.ref d)) => g == "staticmethod.__get__" && (decide (p = ma K (ga K c) m) && decide (d = ga K c))
    | _ => false) && (match PySem.W.recIn K (ma K (ga K c) m) "staticmethod" with
    | some (.ref z :: _) => PySem.W.keepIn K (.ref z)
    | _ => false))
structure SmOk (P : Program) (w : World) (K : PySem.W.Frag) (mg : Str → Option Value) (base : Heap) (tn : Tn) (L : Nat) (x m : Str) (n : Nat) (g : Fn) : Prop where
  ex : ∃ (fd : FuncData) (ps : List Str), smCk K x m = true ∧ mg x = some (.ref (ga K x)) ∧ ps.length = n ∧ FnOk P w K mg base (L2.CX P w) L ((Pl.s x m).ad K) fd ps (spM ⟨K, mg, tn, none⟩ n g) ∧ Binds K fd ps []
theorem SmOk.mono {P : Program} {w : World} {K : PySem.W.Frag} {mg : Str → Option Value} {base : Heap} {tn : Tn} {L L' : Nat} {x m : Str} {n : Nat} {g : Fn} (h : SmOk P w K mg base tn L x m n g) (l : L ≤ L') : SmOk P w K mg base tn L' x m n g :=
  let ⟨fd, ps, h1, h2, h3, h4, h5⟩ := h.ex
  ⟨fd, ps, h1, h2, h3, h4.mono l, h5⟩
theorem SmOk.of {P : Program} {w : World} {K : PySem.W.Frag} {mg : Str → Option Value} {base : Heap} {tn : Tn} {L : Nat} {x m : Str} {n : Nat} {g : Fn} {fd : FuncData} {ps : List Str} (hc : smCk K x m = true) (hg : mg x = some (.ref (ga K x))) (hn : ps.length = n) (F : FnOk P w K mg base (L2.CX P w) L ((Pl.s x m).ad K) fd ps (spM ⟨K, mg, tn, none⟩ n g)) (hb : Binds K fd ps []) : SmOk P w K mg base tn L x m n g := ⟨⟨fd, ps, hc, hg, hn, F, hb⟩⟩
variable {e : Expr} {es : List Expr} {me : ME} {ms : List ME} {p apos pos : Pos} {L k n : Nat} {x m : Str} {g : Fn}
theorem ex_smeth {pl : Sem Bool} (h : SmOk X.prog X.w X.K X.mg X.base fl.tn L x m n g) (C0 : Cxt fl X Wx k) (hL : L ≤ k) (hg : Gl X x) (hn : (me :: ms).length = n) (ha : EA fl X Wx (e :: es) (me :: ms)) (hd : (x == ("__debug__" : Str)) = false := by decide)
    (hst : starEach (e :: es) X.env = (false, eval e X.env) :: starEach es X.env := by rfl) (hpl : (backTo pos (starEach es X.env)).any (·.1) = false := by rfl)
    (ht : eval (.Call (.Attribute (.Name x p) m apos) (e :: es) [] pos) X.env = (do
      let ov ← eval (.Name x p) X.env
      standAt apos.atName
      let (f, first) ← holding [ov] (getMethod ov m pl)
      callWith pos f first (backTo pos (starEach (e :: es) X.env)) (backToKw pos (keywordEach [] X.env))) := by rfl) :
    EX fl X Wx (.Call (.Attribute (.Name x p) m apos) (e :: es) [] pos) (mCall g (me :: ms)) := by
  obtain ⟨fd, ps, ck, hmg, hps, F, hb⟩ := h.ex
  obtain ⟨c1, c2⟩ := ba ck
  obtain ⟨c2, c3⟩ := ba c2
  have c1' := c1
  simp only [PySem.W.readsIn, Bool.and_eq_true, beq_iff_eq] at c1'
  obtain ⟨⟨⟨⟨z1, z2⟩, z3⟩, z4⟩, z5⟩ := c1'
  have hga : PySem.W.specialIn X.K (.ref (ga X.K x)) "__getattribute__" = some (some (.builtin "type.__getattribute__")) := by
    unfold PySem.W.specialIn
    first | (rw [z2]; exact z3) | (simp only [z2]; exact z3)
  split at c2
  case h_2 => cases c2
  rename_i gg pp dd hfc
  obtain ⟨c4, c5⟩ := ba c2
  obtain ⟨c5, c6⟩ := ba c5
  have c4 := beq_iff_eq.mp c4
  have c5 := of_decide_eq_true c5
  have c6 := of_decide_eq_true c6
  subst c4 c5 c6
  split at c3
  case h_2 => cases c3
  rename_i z rest hrec
  have had : (Pl.s x m).ad X.K = z := by
    unfold Pl.ad
    dsimp only
    rw [hrec]
  rw [had, ← C0.gx] at F
  refine ⟨fun pins s σ H Q I ⟨W, env, S, R, RE, q⟩ => ?_⟩
  obtain ⟨mfr, hF⟩ := I.fr
  refine PySem.W.methodCall_KW (pl := pl) (thn ((pe_glob (pos := p) hg hmg (v := .ref (ga X.K x)) rfl hd).run pins s σ H (fun v H1 => v = .ref (ga X.K x) ∧ H1 = H) I ⟨rfl, rfl⟩) fun u s1 ⟨v, H1, I1, r1, ev, eH⟩ => ?_) ht
  subst ev
  rw [eH] at I1
  cases r1
  obtain ⟨mfr1, hF1⟩ := I1.fr
  refine PySem.W.method_of_cls hF1 I1.ok.mod.kin hga (PySem.W.cls_sm hF1 I1.ok.mod.kin z2 c1 hfc hrec rfl ?_)
  have I2 := I1.tok (s1.toks + 1)
  refine PySem.W.callWith_K (first := []) (h₀ := X.base) I2.ok.mod.kin c3 (thn (ha.run pos I2 R RE (Ev.len (show Ev _ _ _ ((mArgs (me :: ms) env S).bind g) _ _ from q))) fun us s2 ⟨vs, H2, I3, r, W2, ds, S2, l2, R2, rl, hlen, q2⟩ => ⟨I3.kIn, ?_⟩) hst hpl
  exact run_spMA F (C0.hr.mono hL) rfl hb C0.tk I3 r (by rw [hlen]; exact hn) hps R2 rl q2
end
end Bp


set_option Elab.async false
set_option linter.all false
set_option maxRecDepth 100000
set_option maxHeartbeats 0
namespace Lw
open PySem L2 PyProof.Rows He Bp NdefX
abbrev tn : Tn := ⟨nm, flf⟩
structure Gn (K : PySem.W.Frag) (mg : Str → Option Value) : Prop where
  f_NotImplemented : mg "NotImplemented" = none
  f_ValueError : mg "ValueError" = none
  f_abs : mg "abs" = none
  f_bool : mg "bool" = none
  f_int : mg "int" = none
  f_isinstance : mg "isinstance" = none
  f_len : mg "len" = none
  f_range : mg "range" = none
  f_str : mg "str" = none
  f_super : mg "super" = none
  g_BadNumber : mg "BadNumber" = some (.ref (ga K "BadNumber"))
  g_BestError : mg "BestError" = some (.ref (ga K "BestError"))
  g_DivisionByZero : mg "DivisionByZero" = some (.ref (ga K "DivisionByZero"))
  g_Frac : mg "Frac" = some (.ref (ga K "Frac"))
  g__law_cell : mg "_law_cell" = some (.ref (ga K "_law_cell"))
  g__law_drawn : mg "_law_drawn" = some (.ref (ga K "_law_drawn"))
  g__law_figures : mg "_law_figures" = some (.ref (ga K "_law_figures"))
  g__law_gcd : mg "_law_gcd" = some (.ref (ga K "_law_gcd"))
  g__law_integer : mg "_law_integer" = some (.ref (ga K "_law_integer"))
  g__law_is : mg "_law_is" = some (.ref (ga K "_law_is"))
  g__law_low : mg "_law_low" = some (.ref (ga K "_law_low"))
  g__law_number : mg "_law_number" = some (.ref (ga K "_law_number"))
  g__law_reading : mg "_law_reading" = some (.ref (ga K "_law_reading"))
  g__law_reads : mg "_law_reads" = some (.ref (ga K "_law_reads"))
  g__law_short : mg "_law_short" = some (.ref (ga K "_law_short"))
  g__law_spoilt : mg "_law_spoilt" = some (.ref (ga K "_law_spoilt"))
  g__law_text : mg "_law_text" = some (.ref (ga K "_law_text"))
  g__law_writes : mg "_law_writes" = some (.ref (ga K "_law_writes"))
  g_is_figures : mg "is_figures" = some (.ref (ga K "is_figures"))
  g_law : mg "law" = some (.ref (ga K "law"))
  c_Frac_MOST_FIGURES : ccCk K "Frac" "MOST_FIGURES" (.int 40) = true
  b_gcd : mg "gcd" = some (.builtin "math.gcd")
section
variable {P : Program} {w : World} {K : PySem.W.Frag} {mg : Str → Option Value} {base : Heap}
noncomputable def T0 : CT := S0.tab
noncomputable def b_F_init : MS := mSeq (mIfS (mB (mBin (cmpD T0 .Eq) (mVar 2) (mC (.int 0)))) (mRaise0 T0 n_DivisionByZero) (mNext)) (mSeq (mAsg 3 (mCall gcdD [mVar 1, mVar 2])) (mSeq (mIfS (mB (mBin (cmpD T0 .Lt) (mVar 2) (mC (.int 0)))) (mAsg 3 (mUn (negD T0) (mVar 3))) (mNext)) (mSeq (mSetA T0 n_num (mVar 0) (mBin (opD T0 .FloorDiv) (mVar 1) (mVar 3))) (mSetA T0 n_den (mVar 0) (mBin (opD T0 .FloorDiv) (mVar 2) (mVar 3))))))
noncomputable def m_F_init : Fn := mDef 4 b_F_init
theorem sc_F_init : FnScope ["self", "num", "den", "shared"] ["self", "num", "den"] (defScope st_F_init) := ⟨rfl, rfl, rfl, by decide +kernel, rfl, by decide +kernel, by decide +kernel⟩
theorem ok_F_init {f : Addr} {fd : FuncData} {dvs : List V} {kws : List (Str × V)} (G : Gn K mg) (hT : T0.Ok P w K mg base 0) (F : FunD K "__init__" "Frac.__init__" (defArgs st_F_init) (defBody st_F_init) (defScope st_F_init) dvs kws f fd) : FnOk P w K mg base (L2.CX P w) 2 f fd ["self", "num", "den"] (spM ⟨K, mg, tn, none⟩ 3 m_F_init) :=
  fn_mk (fl := ⟨tn, none⟩) (st := st_F_init) (N := ["self", "num", "den", "shared"]) (ps := ["self", "num", "den"]) (qual := "Frac.__init__") (k := 1) (body := b_F_init) F sc_F_init rfl fun cdv A outer s H E C0 Z0 => es_cons (es_if (et_cmp (bin_cmp hT rfl C0 (by decide)) (ex_var 2) (ex_int) (by rfl)) (es_one (es_raise0 n_DivisionByZero rfl hT rfl C0 rfl rfl)) (es_nil)) (es_cons (es_set sc_F_init.nd rfl (Or.inl rfl) (ex_callF bl_gcd rfl G.b_gcd (ea_cons (ex_var 1) (ea_cons (ex_var 2) ea_nil)))) (es_cons (es_if (et_cmp (bin_cmp hT rfl C0 (by decide)) (ex_var 2) (ex_int) (by rfl)) (es_one (es_set sc_F_init.nd rfl (Or.inl rfl) (ex_un (un_negD hT rfl C0 (by decide)) (ex_var 3)))) (es_nil)) (es_cons (es_seta n_num rfl hT rfl (ex_var 0) (ex_bin (bin_op hT rfl C0 (by decide)) (ex_var 1) (ex_var 3))) (es_one (es_seta n_den rfl hT rfl (ex_var 0) (ex_bin (bin_op hT rfl C0 (by decide)) (ex_var 2) (ex_var 3)))))))
noncomputable def T1 : CT := T0.ak n_Frac 3 [.int 0, .int 1] m_F_init
noncomputable def b_F_bool : MS := mRet (mCall (boolD T1) [mBin (cmpD T1 .NotEq) (mAttr T1 n_num (mVar 0)) (mC (.int 0))])
noncomputable def m_F_bool : Fn := mDef 1 b_F_bool
theorem sc_F_bool : FnScope ["self"] ["self"] (defScope st_F_bool) := ⟨rfl, rfl, rfl, by decide +kernel, rfl, by decide +kernel, by decide +kernel⟩
theorem ok_F_bool {f : Addr} {fd : FuncData} {dvs : List V} {kws : List (Str × V)} (G : Gn K mg) (hT : T1.Ok P w K mg base 2) (F : FunD K "__bool__" "Frac.__bool__" (defArgs st_F_bool) (defBody st_F_bool) (defScope st_F_bool) dvs kws f fd) : FnOk P w K mg base (L2.CX P w) 6 f fd ["self"] (spM ⟨K, mg, tn, none⟩ 1 m_F_bool) :=
  fn_mk (fl := ⟨tn, none⟩) (st := st_F_bool) (N := ["self"]) (ps := ["self"]) (qual := "Frac.__bool__") (k := 5) (body := b_F_bool) F sc_F_bool rfl fun cdv A outer s H E C0 Z0 => es_one (es_ret (ex_callTy (bl_bool hT rfl C0 (by decide)) rfl G.f_bool (by kernel_rfl) (ea_cons (ex_cmp (bin_cmp hT rfl C0 (by decide)) (ex_attr n_num rfl hT rfl C0 (by decide) (ex_var 0)) (ex_int) (by rfl)) ea_nil)))
noncomputable def b_F_neg : MS := mRet (mNew T1 n_Frac [mUn (negD T1) (mAttr T1 n_num (mVar 0)), mAttr T1 n_den (mVar 0)])
noncomputable def m_F_neg : Fn := mDef 1 b_F_neg
theorem sc_F_neg : FnScope ["self"] ["self"] (defScope st_F_neg) := ⟨rfl, rfl, rfl, by decide +kernel, rfl, by decide +kernel, by decide +kernel⟩
theorem ok_F_neg {f : Addr} {fd : FuncData} {dvs : List V} {kws : List (Str × V)} (G : Gn K mg) (hT : T1.Ok P w K mg base 2) (F : FunD K "__neg__" "Frac.__neg__" (defArgs st_F_neg) (defBody st_F_neg) (defScope st_F_neg) dvs kws f fd) : FnOk P w K mg base (L2.CX P w) 6 f fd ["self"] (spM ⟨K, mg, tn, none⟩ 1 m_F_neg) :=
  fn_mk (fl := ⟨tn, none⟩) (st := st_F_neg) (N := ["self"]) (ps := ["self"]) (qual := "Frac.__neg__") (k := 5) (body := b_F_neg) F sc_F_neg rfl fun cdv A outer s H E C0 Z0 => es_one (es_ret (ex_new n_Frac rfl hT rfl C0 (by decide) rfl rfl (ea_cons (ex_un (un_negD hT rfl C0 (by decide)) (ex_attr n_num rfl hT rfl C0 (by decide) (ex_var 0))) (ea_cons (ex_attr n_den rfl hT rfl C0 (by decide) (ex_var 0)) ea_nil))))
noncomputable def b_F_abs : MS := mRet (mNew T1 n_Frac [mCall (absD T1) [mAttr T1 n_num (mVar 0)], mAttr T1 n_den (mVar 0)])
noncomputable def m_F_abs : Fn := mDef 1 b_F_abs
theorem sc_F_abs : FnScope ["self"] ["self"] (defScope st_F_abs) := ⟨rfl, rfl, rfl, by decide +kernel, rfl, by decide +kernel, by decide +kernel⟩
theorem ok_F_abs {f : Addr} {fd : FuncData} {dvs : List V} {kws : List (Str × V)} (G : Gn K mg) (hT : T1.Ok P w K mg base 2) (F : FunD K "__abs__" "Frac.__abs__" (defArgs st_F_abs) (defBody st_F_abs) (defScope st_F_abs) dvs kws f fd) : FnOk P w K mg base (L2.CX P w) 6 f fd ["self"] (spM ⟨K, mg, tn, none⟩ 1 m_F_abs) :=
  fn_mk (fl := ⟨tn, none⟩) (st := st_F_abs) (N := ["self"]) (ps := ["self"]) (qual := "Frac.__abs__") (k := 5) (body := b_F_abs) F sc_F_abs rfl fun cdv A outer s H E C0 Z0 => es_one (es_ret (ex_new n_Frac rfl hT rfl C0 (by decide) rfl rfl (ea_cons (ex_callB (bl_abs hT rfl C0 (by decide)) rfl G.f_abs (by kernel_rfl) (ea_cons (ex_attr n_num rfl hT rfl C0 (by decide) (ex_var 0)) ea_nil)) (ea_cons (ex_attr n_den rfl hT rfl C0 (by decide) (ex_var 0)) ea_nil))))
noncomputable def b_F_add : MS := mSeq (mIfS (mTru (mCall (isiD T1) [mVar 1, mC (.glob n_Frac)])) (mRet (mNew T1 n_Frac [mBin (opD T1 .Add) (mBin (opD T1 .Mult) (mAttr T1 n_num (mVar 0)) (mAttr T1 n_den (mVar 1))) (mBin (opD T1 .Mult) (mAttr T1 n_num (mVar 1)) (mAttr T1 n_den (mVar 0))), mBin (opD T1 .Mult) (mAttr T1 n_den (mVar 0)) (mAttr T1 n_den (mVar 1))])) (mNext)) (mSeq (mIfS (mTru (mCall (isiD T1) [mVar 1, mC (.ty "int")])) (mRet (mNew T1 n_Frac [mBin (opD T1 .Add) (mAttr T1 n_num (mVar 0)) (mBin (opD T1 .Mult) (mVar 1) (mAttr T1 n_den (mVar 0))), mAttr T1 n_den (mVar 0)])) (mNext)) ((fun _ _ => .bad)))
noncomputable def m_F_add : Fn := mDef 2 b_F_add
theorem sc_F_add : FnScope ["self", "other"] ["self", "other"] (defScope st_F_add) := ⟨rfl, rfl, rfl, by decide +kernel, rfl, by decide +kernel, by decide +kernel⟩
theorem ok_F_add {f : Addr} {fd : FuncData} {dvs : List V} {kws : List (Str × V)} (G : Gn K mg) (hT : T1.Ok P w K mg base 2) (F : FunD K "__add__" "Frac.__add__" (defArgs st_F_add) (defBody st_F_add) (defScope st_F_add) dvs kws f fd) : FnOk P w K mg base (L2.CX P w) 6 f fd ["self", "other"] (spM ⟨K, mg, tn, none⟩ 2 m_F_add) :=
  fn_mk (fl := ⟨tn, none⟩) (st := st_F_add) (N := ["self", "other"]) (ps := ["self", "other"]) (qual := "Frac.__add__") (k := 5) (body := b_F_add) F sc_F_add rfl fun cdv A outer s H E C0 Z0 => es_cons (es_if (et_val (ex_callB (bl_isi hT rfl) rfl G.f_isinstance (by kernel_rfl) (ea_cons (ex_var 1) (ea_cons (ex_glob n_Frac rfl rfl G.g_Frac) ea_nil)))) (es_one (es_ret (ex_new n_Frac rfl hT rfl C0 (by decide) rfl rfl (ea_cons (ex_bin (bin_op hT rfl C0 (by decide)) (ex_bin (bin_op hT rfl C0 (by decide)) (ex_attr n_num rfl hT rfl C0 (by decide) (ex_var 0)) (ex_attr n_den rfl hT rfl C0 (by decide) (ex_var 1))) (ex_bin (bin_op hT rfl C0 (by decide)) (ex_attr n_num rfl hT rfl C0 (by decide) (ex_var 1)) (ex_attr n_den rfl hT rfl C0 (by decide) (ex_var 0)))) (ea_cons (ex_bin (bin_op hT rfl C0 (by decide)) (ex_attr n_den rfl hT rfl C0 (by decide) (ex_var 0)) (ex_attr n_den rfl hT rfl C0 (by decide) (ex_var 1))) ea_nil))))) (es_nil)) (es_cons (es_if (et_val (ex_callB (bl_isi hT rfl) rfl G.f_isinstance (by kernel_rfl) (ea_cons (ex_var 1) (ea_cons (ex_ty rfl G.f_int (by kernel_rfl)) ea_nil)))) (es_one (es_ret (ex_new n_Frac rfl hT rfl C0 (by decide) rfl rfl (ea_cons (ex_bin (bin_op hT rfl C0 (by decide)) (ex_attr n_num rfl hT rfl C0 (by decide) (ex_var 0)) (ex_bin (bin_op hT rfl C0 (by decide)) (ex_var 1) (ex_attr n_den rfl hT rfl C0 (by decide) (ex_var 0)))) (ea_cons (ex_attr n_den rfl hT rfl C0 (by decide) (ex_var 0)) ea_nil))))) (es_nil)) (es_one (es_bad)))
noncomputable def b_F_radd : MS := mSeq (mIfS (mNot (mTru (mCall (isiD T1) [mVar 1, mC (.ty "int")]))) ((fun _ _ => .bad)) (mNext)) (mRet (mNew T1 n_Frac [mBin (opD T1 .Add) (mBin (opD T1 .Mult) (mVar 1) (mAttr T1 n_den (mVar 0))) (mAttr T1 n_num (mVar 0)), mAttr T1 n_den (mVar 0)]))
noncomputable def m_F_radd : Fn := mDef 2 b_F_radd
theorem sc_F_radd : FnScope ["self", "other"] ["self", "other"] (defScope st_F_radd) := ⟨rfl, rfl, rfl, by decide +kernel, rfl, by decide +kernel, by decide +kernel⟩
theorem ok_F_radd {f : Addr} {fd : FuncData} {dvs : List V} {kws : List (Str × V)} (G : Gn K mg) (hT : T1.Ok P w K mg base 2) (F : FunD K "__radd__" "Frac.__radd__" (defArgs st_F_radd) (defBody st_F_radd) (defScope st_F_radd) dvs kws f fd) : FnOk P w K mg base (L2.CX P w) 6 f fd ["self", "other"] (spM ⟨K, mg, tn, none⟩ 2 m_F_radd) :=
  fn_mk (fl := ⟨tn, none⟩) (st := st_F_radd) (N := ["self", "other"]) (ps := ["self", "other"]) (qual := "Frac.__radd__") (k := 5) (body := b_F_radd) F sc_F_radd rfl fun cdv A outer s H E C0 Z0 => es_cons (es_if (et_not (et_val (ex_callB (bl_isi hT rfl) rfl G.f_isinstance (by kernel_rfl) (ea_cons (ex_var 1) (ea_cons (ex_ty rfl G.f_int (by kernel_rfl)) ea_nil))))) (es_one (es_bad)) (es_nil)) (es_one (es_ret (ex_new n_Frac rfl hT rfl C0 (by decide) rfl rfl (ea_cons (ex_bin (bin_op hT rfl C0 (by decide)) (ex_bin (bin_op hT rfl C0 (by decide)) (ex_var 1) (ex_attr n_den rfl hT rfl C0 (by decide) (ex_var 0))) (ex_attr n_num rfl hT rfl C0 (by decide) (ex_var 0))) (ea_cons (ex_attr n_den rfl hT rfl C0 (by decide) (ex_var 0)) ea_nil)))))
noncomputable def b_F_sub : MS := mSeq (mIfS (mTru (mCall (isiD T1) [mVar 1, mC (.glob n_Frac)])) (mRet (mNew T1 n_Frac [mBin (opD T1 .Sub) (mBin (opD T1 .Mult) (mAttr T1 n_num (mVar 0)) (mAttr T1 n_den (mVar 1))) (mBin (opD T1 .Mult) (mAttr T1 n_num (mVar 1)) (mAttr T1 n_den (mVar 0))), mBin (opD T1 .Mult) (mAttr T1 n_den (mVar 0)) (mAttr T1 n_den (mVar 1))])) (mNext)) (mSeq (mIfS (mTru (mCall (isiD T1) [mVar 1, mC (.ty "int")])) (mRet (mNew T1 n_Frac [mBin (opD T1 .Sub) (mAttr T1 n_num (mVar 0)) (mBin (opD T1 .Mult) (mVar 1) (mAttr T1 n_den (mVar 0))), mAttr T1 n_den (mVar 0)])) (mNext)) ((fun _ _ => .bad)))
noncomputable def m_F_sub : Fn := mDef 2 b_F_sub
theorem sc_F_sub : FnScope ["self", "other"] ["self", "other"] (defScope st_F_sub) := ⟨rfl, rfl, rfl, by decide +kernel, rfl, by decide +kernel, by decide +kernel⟩
theorem ok_F_sub {f : Addr} {fd : FuncData} {dvs : List V} {kws : List (Str × V)} (G : Gn K mg) (hT : T1.Ok P w K mg base 2) (F : FunD K "__sub__" "Frac.__sub__" (defArgs st_F_sub) (defBody st_F_sub) (defScope st_F_sub) dvs kws f fd) : FnOk P w K mg base (L2.CX P w) 6 f fd ["self", "other"] (spM ⟨K, mg, tn, none⟩ 2 m_F_sub) :=
  fn_mk (fl := ⟨tn, none⟩) (st := st_F_sub) (N := ["self", "other"]) (ps := ["self", "other"]) (qual := "Frac.__sub__") (k := 5) (body := b_F_sub) F sc_F_sub rfl fun cdv A outer s H E C0 Z0 => es_cons (es_if (et_val (ex_callB (bl_isi hT rfl) rfl G.f_isinstance (by kernel_rfl) (ea_cons (ex_var 1) (ea_cons (ex_glob n_Frac rfl rfl G.g_Frac) ea_nil)))) (es_one (es_ret (ex_new n_Frac rfl hT rfl C0 (by decide) rfl rfl (ea_cons (ex_bin (bin_op hT rfl C0 (by decide)) (ex_bin (bin_op hT rfl C0 (by decide)) (ex_attr n_num rfl hT rfl C0 (by decide) (ex_var 0)) (ex_attr n_den rfl hT rfl C0 (by decide) (ex_var 1))) (ex_bin (bin_op hT rfl C0 (by decide)) (ex_attr n_num rfl hT rfl C0 (by decide) (ex_var 1)) (ex_attr n_den rfl hT rfl C0 (by decide) (ex_var 0)))) (ea_cons (ex_bin (bin_op hT rfl C0 (by decide)) (ex_attr n_den rfl hT rfl C0 (by decide) (ex_var 0)) (ex_attr n_den rfl hT rfl C0 (by decide) (ex_var 1))) ea_nil))))) (es_nil)) (es_cons (es_if (et_val (ex_callB (bl_isi hT rfl) rfl G.f_isinstance (by kernel_rfl) (ea_cons (ex_var 1) (ea_cons (ex_ty rfl G.f_int (by kernel_rfl)) ea_nil)))) (es_one (es_ret (ex_new n_Frac rfl hT rfl C0 (by decide) rfl rfl (ea_cons (ex_bin (bin_op hT rfl C0 (by decide)) (ex_attr n_num rfl hT rfl C0 (by decide) (ex_var 0)) (ex_bin (bin_op hT rfl C0 (by decide)) (ex_var 1) (ex_attr n_den rfl hT rfl C0 (by decide) (ex_var 0)))) (ea_cons (ex_attr n_den rfl hT rfl C0 (by decide) (ex_var 0)) ea_nil))))) (es_nil)) (es_one (es_bad)))
noncomputable def b_F_rsub : MS := mSeq (mIfS (mNot (mTru (mCall (isiD T1) [mVar 1, mC (.ty "int")]))) ((fun _ _ => .bad)) (mNext)) (mRet (mNew T1 n_Frac [mBin (opD T1 .Sub) (mBin (opD T1 .Mult) (mVar 1) (mAttr T1 n_den (mVar 0))) (mAttr T1 n_num (mVar 0)), mAttr T1 n_den (mVar 0)]))
noncomputable def m_F_rsub : Fn := mDef 2 b_F_rsub
theorem sc_F_rsub : FnScope ["self", "other"] ["self", "other"] (defScope st_F_rsub) := ⟨rfl, rfl, rfl, by decide +kernel, rfl, by decide +kernel, by decide +kernel⟩
theorem ok_F_rsub {f : Addr} {fd : FuncData} {dvs : List V} {kws : List (Str × V)} (G : Gn K mg) (hT : T1.Ok P w K mg base 2) (F : FunD K "__rsub__" "Frac.__rsub__" (defArgs st_F_rsub) (defBody st_F_rsub) (defScope st_F_rsub) dvs kws f fd) : FnOk P w K mg base (L2.CX P w) 6 f fd ["self", "other"] (spM ⟨K, mg, tn, none⟩ 2 m_F_rsub) :=
  fn_mk (fl := ⟨tn, none⟩) (st := st_F_rsub) (N := ["self", "other"]) (ps := ["self", "other"]) (qual := "Frac.__rsub__") (k := 5) (body := b_F_rsub) F sc_F_rsub rfl fun cdv A outer s H E C0 Z0 => es_cons (es_if (et_not (et_val (ex_callB (bl_isi hT rfl) rfl G.f_isinstance (by kernel_rfl) (ea_cons (ex_var 1) (ea_cons (ex_ty rfl G.f_int (by kernel_rfl)) ea_nil))))) (es_one (es_bad)) (es_nil)) (es_one (es_ret (ex_new n_Frac rfl hT rfl C0 (by decide) rfl rfl (ea_cons (ex_bin (bin_op hT rfl C0 (by decide)) (ex_bin (bin_op hT rfl C0 (by decide)) (ex_var 1) (ex_attr n_den rfl hT rfl C0 (by decide) (ex_var 0))) (ex_attr n_num rfl hT rfl C0 (by decide) (ex_var 0))) (ea_cons (ex_attr n_den rfl hT rfl C0 (by decide) (ex_var 0)) ea_nil)))))
noncomputable def b_F_mul : MS := mSeq (mIfS (mTru (mCall (isiD T1) [mVar 1, mC (.glob n_Frac)])) (mRet (mNew T1 n_Frac [mBin (opD T1 .Mult) (mAttr T1 n_num (mVar 0)) (mAttr T1 n_num (mVar 1)), mBin (opD T1 .Mult) (mAttr T1 n_den (mVar 0)) (mAttr T1 n_den (mVar 1))])) (mNext)) (mSeq (mIfS (mTru (mCall (isiD T1) [mVar 1, mC (.ty "int")])) (mRet (mNew T1 n_Frac [mBin (opD T1 .Mult) (mAttr T1 n_num (mVar 0)) (mVar 1), mAttr T1 n_den (mVar 0)])) (mNext)) ((fun _ _ => .bad)))
noncomputable def m_F_mul : Fn := mDef 2 b_F_mul
theorem sc_F_mul : FnScope ["self", "other"] ["self", "other"] (defScope st_F_mul) := ⟨rfl, rfl, rfl, by decide +kernel, rfl, by decide +kernel, by decide +kernel⟩
theorem ok_F_mul {f : Addr} {fd : FuncData} {dvs : List V} {kws : List (Str × V)} (G : Gn K mg) (hT : T1.Ok P w K mg base 2) (F : FunD K "__mul__" "Frac.__mul__" (defArgs st_F_mul) (defBody st_F_mul) (defScope st_F_mul) dvs kws f fd) : FnOk P w K mg base (L2.CX P w) 6 f fd ["self", "other"] (spM ⟨K, mg, tn, none⟩ 2 m_F_mul) :=
  fn_mk (fl := ⟨tn, none⟩) (st := st_F_mul) (N := ["self", "other"]) (ps := ["self", "other"]) (qual := "Frac.__mul__") (k := 5) (body := b_F_mul) F sc_F_mul rfl fun cdv A outer s H E C0 Z0 => es_cons (es_if (et_val (ex_callB (bl_isi hT rfl) rfl G.f_isinstance (by kernel_rfl) (ea_cons (ex_var 1) (ea_cons (ex_glob n_Frac rfl rfl G.g_Frac) ea_nil)))) (es_one (es_ret (ex_new n_Frac rfl hT rfl C0 (by decide) rfl rfl (ea_cons (ex_bin (bin_op hT rfl C0 (by decide)) (ex_attr n_num rfl hT rfl C0 (by decide) (ex_var 0)) (ex_attr n_num rfl hT rfl C0 (by decide) (ex_var 1))) (ea_cons (ex_bin (bin_op hT rfl C0 (by decide)) (ex_attr n_den rfl hT rfl C0 (by decide) (ex_var 0)) (ex_attr n_den rfl hT rfl C0 (by decide) (ex_var 1))) ea_nil))))) (es_nil)) (es_cons (es_if (et_val (ex_callB (bl_isi hT rfl) rfl G.f_isinstance (by kernel_rfl) (ea_cons (ex_var 1) (ea_cons (ex_ty rfl G.f_int (by kernel_rfl)) ea_nil)))) (es_one (es_ret (ex_new n_Frac rfl hT rfl C0 (by decide) rfl rfl (ea_cons (ex_bin (bin_op hT rfl C0 (by decide)) (ex_attr n_num rfl hT rfl C0 (by decide) (ex_var 0)) (ex_var 1)) (ea_cons (ex_attr n_den rfl hT rfl C0 (by decide) (ex_var 0)) ea_nil))))) (es_nil)) (es_one (es_bad)))
noncomputable def b_F_rmul : MS := mSeq (mIfS (mNot (mTru (mCall (isiD T1) [mVar 1, mC (.ty "int")]))) ((fun _ _ => .bad)) (mNext)) (mRet (mNew T1 n_Frac [mBin (opD T1 .Mult) (mVar 1) (mAttr T1 n_num (mVar 0)), mAttr T1 n_den (mVar 0)]))
noncomputable def m_F_rmul : Fn := mDef 2 b_F_rmul
theorem sc_F_rmul : FnScope ["self", "other"] ["self", "other"] (defScope st_F_rmul) := ⟨rfl, rfl, rfl, by decide +kernel, rfl, by decide +kernel, by decide +kernel⟩
theorem ok_F_rmul {f : Addr} {fd : FuncData} {dvs : List V} {kws : List (Str × V)} (G : Gn K mg) (hT : T1.Ok P w K mg base 2) (F : FunD K "__rmul__" "Frac.__rmul__" (defArgs st_F_rmul) (defBody st_F_rmul) (defScope st_F_rmul) dvs kws f fd) : FnOk P w K mg base (L2.CX P w) 6 f fd ["self", "other"] (spM ⟨K, mg, tn, none⟩ 2 m_F_rmul) :=
  fn_mk (fl := ⟨tn, none⟩) (st := st_F_rmul) (N := ["self", "other"]) (ps := ["self", "other"]) (qual := "Frac.__rmul__") (k := 5) (body := b_F_rmul) F sc_F_rmul rfl fun cdv A outer s H E C0 Z0 => es_cons (es_if (et_not (et_val (ex_callB (bl_isi hT rfl) rfl G.f_isinstance (by kernel_rfl) (ea_cons (ex_var 1) (ea_cons (ex_ty rfl G.f_int (by kernel_rfl)) ea_nil))))) (es_one (es_bad)) (es_nil)) (es_one (es_ret (ex_new n_Frac rfl hT rfl C0 (by decide) rfl rfl (ea_cons (ex_bin (bin_op hT rfl C0 (by decide)) (ex_var 1) (ex_attr n_num rfl hT rfl C0 (by decide) (ex_var 0))) (ea_cons (ex_attr n_den rfl hT rfl C0 (by decide) (ex_var 0)) ea_nil)))))
noncomputable def b_F_floordiv : MS := mSeq (mIfS (mTru (mCall (isiD T1) [mVar 1, mC (.glob n_Frac)])) (mSeq (mAsg 2 (mBin (opD T1 .Mult) (mAttr T1 n_num (mVar 0)) (mAttr T1 n_den (mVar 1)))) (mAsg 3 (mBin (opD T1 .Mult) (mAttr T1 n_den (mVar 0)) (mAttr T1 n_num (mVar 1))))) (mIfS (mTru (mCall (isiD T1) [mVar 1, mC (.ty "int")])) (mSeq (mAsg 2 (mAttr T1 n_num (mVar 0))) (mAsg 3 (mBin (opD T1 .Mult) (mAttr T1 n_den (mVar 0)) (mVar 1)))) ((fun _ _ => .bad)))) (mSeq (mIfS (mB (mBin (cmpD T1 .Eq) (mVar 3) (mC (.int 0)))) (mRaise0 T1 n_DivisionByZero) (mNext)) (mRet (mBin (opD T1 .FloorDiv) (mVar 2) (mVar 3))))
noncomputable def m_F_floordiv : Fn := mDef 4 b_F_floordiv
theorem sc_F_floordiv : FnScope ["self", "other", "above", "below"] ["self", "other"] (defScope st_F_floordiv) := ⟨rfl, rfl, rfl, by decide +kernel, rfl, by decide +kernel, by decide +kernel⟩
theorem ok_F_floordiv {f : Addr} {fd : FuncData} {dvs : List V} {kws : List (Str × V)} (G : Gn K mg) (hT : T1.Ok P w K mg base 2) (F : FunD K "__floordiv__" "Frac.__floordiv__" (defArgs st_F_floordiv) (defBody st_F_floordiv) (defScope st_F_floordiv) dvs kws f fd) : FnOk P w K mg base (L2.CX P w) 6 f fd ["self", "other"] (spM ⟨K, mg, tn, none⟩ 2 m_F_floordiv) :=
  fn_mk (fl := ⟨tn, none⟩) (st := st_F_floordiv) (N := ["self", "other", "above", "below"]) (ps := ["self", "other"]) (qual := "Frac.__floordiv__") (k := 5) (body := b_F_floordiv) F sc_F_floordiv rfl fun cdv A outer s H E C0 Z0 => es_cons (es_if (et_val (ex_callB (bl_isi hT rfl) rfl G.f_isinstance (by kernel_rfl) (ea_cons (ex_var 1) (ea_cons (ex_glob n_Frac rfl rfl G.g_Frac) ea_nil)))) (es_cons (es_set sc_F_floordiv.nd rfl (Or.inl rfl) (ex_bin (bin_op hT rfl C0 (by decide)) (ex_attr n_num rfl hT rfl C0 (by decide) (ex_var 0)) (ex_attr n_den rfl hT rfl C0 (by decide) (ex_var 1)))) (es_one (es_set sc_F_floordiv.nd rfl (Or.inl rfl) (ex_bin (bin_op hT rfl C0 (by decide)) (ex_attr n_den rfl hT rfl C0 (by decide) (ex_var 0)) (ex_attr n_num rfl hT rfl C0 (by decide) (ex_var 1)))))) (es_one (es_if (et_val (ex_callB (bl_isi hT rfl) rfl G.f_isinstance (by kernel_rfl) (ea_cons (ex_var 1) (ea_cons (ex_ty rfl G.f_int (by kernel_rfl)) ea_nil)))) (es_cons (es_set sc_F_floordiv.nd rfl (Or.inl rfl) (ex_attr n_num rfl hT rfl C0 (by decide) (ex_var 0))) (es_one (es_set sc_F_floordiv.nd rfl (Or.inl rfl) (ex_bin (bin_op hT rfl C0 (by decide)) (ex_attr n_den rfl hT rfl C0 (by decide) (ex_var 0)) (ex_var 1))))) (es_one (es_bad))))) (es_cons (es_if (et_cmp (bin_cmp hT rfl C0 (by decide)) (ex_var 3) (ex_int) (by rfl)) (es_one (es_raise0 n_DivisionByZero rfl hT rfl C0 rfl rfl)) (es_nil)) (es_one (es_ret (ex_bin (bin_op hT rfl C0 (by decide)) (ex_var 2) (ex_var 3)))))
noncomputable def lb_F_pow_0 : MS := mSeq (mAsg 2 (mBin (opD T1 .Mult) (mVar 2) (mAttr T1 n_num (mVar 0)))) (mAsg 3 (mBin (opD T1 .Mult) (mVar 3) (mAttr T1 n_den (mVar 0))))
noncomputable def b_F_pow : MS := mSeq (mIfS (mNot (mTru (mCall (isiD T1) [mVar 1, mC (.ty "int")]))) ((fun _ _ => .bad)) (mNext)) (mSeq (mAsg 2 (mC (.int 1))) (mSeq (mAsg 3 (mC (.int 1))) (mSeq (mFor (iRange1 (mVar 1)) (gNm 4) lb_F_pow_0) (mRet (mNew T1 n_Frac [mVar 2, mVar 3])))))
noncomputable def m_F_pow : Fn := mDef 5 b_F_pow
theorem sc_F_pow : FnScope ["self", "other", "above", "below", "_"] ["self", "other"] (defScope st_F_pow) := ⟨rfl, rfl, rfl, by decide +kernel, rfl, by decide +kernel, by decide +kernel⟩
theorem ok_F_pow {f : Addr} {fd : FuncData} {dvs : List V} {kws : List (Str × V)} (G : Gn K mg) (hT : T1.Ok P w K mg base 2) (F : FunD K "__pow__" "Frac.__pow__" (defArgs st_F_pow) (defBody st_F_pow) (defScope st_F_pow) dvs kws f fd) : FnOk P w K mg base (L2.CX P w) 6 f fd ["self", "other"] (spM ⟨K, mg, tn, none⟩ 2 m_F_pow) :=
  fn_mk (fl := ⟨tn, none⟩) (st := st_F_pow) (N := ["self", "other", "above", "below", "_"]) (ps := ["self", "other"]) (qual := "Frac.__pow__") (k := 5) (body := b_F_pow) F sc_F_pow rfl fun cdv A outer s H E C0 Z0 => es_cons (es_if (et_not (et_val (ex_callB (bl_isi hT rfl) rfl G.f_isinstance (by kernel_rfl) (ea_cons (ex_var 1) (ea_cons (ex_ty rfl G.f_int (by kernel_rfl)) ea_nil))))) (es_one (es_bad)) (es_nil)) (es_cons (es_set sc_F_pow.nd rfl (Or.inl rfl) (ex_int)) (es_cons (es_set sc_F_pow.nd rfl (Or.inl rfl) (ex_int)) (es_cons (es_for C0.po C0.calm (ei_range1 rfl G.f_range (ea_cons (ex_var 1) ea_nil)) (eg_name sc_F_pow.nd rfl (Or.inl rfl)) (plain_nm 4) (es_cons (es_set sc_F_pow.nd rfl (Or.inl rfl) (ex_bin (bin_op hT rfl C0 (by decide)) (ex_var 2) (ex_attr n_num rfl hT rfl C0 (by decide) (ex_var 0)))) (es_one (es_set sc_F_pow.nd rfl (Or.inl rfl) (ex_bin (bin_op hT rfl C0 (by decide)) (ex_var 3) (ex_attr n_den rfl hT rfl C0 (by decide) (ex_var 0))))))) (es_one (es_ret (ex_new n_Frac rfl hT rfl C0 (by decide) rfl rfl (ea_cons (ex_var 2) (ea_cons (ex_var 3) ea_nil))))))))
noncomputable def b_F_eq : MS := mSeq (mIfS (mTru (mCall (isiD T1) [mVar 1, mC (.glob n_Frac)])) (mRet (mAndV (mBin (cmpD T1 .Eq) (mAttr T1 n_num (mVar 0)) (mAttr T1 n_num (mVar 1))) (mBin (cmpD T1 .Eq) (mAttr T1 n_den (mVar 0)) (mAttr T1 n_den (mVar 1))))) (mNext)) (mSeq (mIfS (mTru (mCall (isiD T1) [mVar 1, mC (.ty "int")])) (mRet (mAndV (mBin (cmpD T1 .Eq) (mAttr T1 n_den (mVar 0)) (mC (.int 1))) (mBin (cmpD T1 .Eq) (mAttr T1 n_num (mVar 0)) (mVar 1)))) (mNext)) ((fun _ _ => .bad)))
noncomputable def m_F_eq : Fn := mDef 2 b_F_eq
theorem sc_F_eq : FnScope ["self", "other"] ["self", "other"] (defScope st_F_eq) := ⟨rfl, rfl, rfl, by decide +kernel, rfl, by decide +kernel, by decide +kernel⟩
theorem ok_F_eq {f : Addr} {fd : FuncData} {dvs : List V} {kws : List (Str × V)} (G : Gn K mg) (hT : T1.Ok P w K mg base 2) (F : FunD K "__eq__" "Frac.__eq__" (defArgs st_F_eq) (defBody st_F_eq) (defScope st_F_eq) dvs kws f fd) : FnOk P w K mg base (L2.CX P w) 6 f fd ["self", "other"] (spM ⟨K, mg, tn, none⟩ 2 m_F_eq) :=
  fn_mk (fl := ⟨tn, none⟩) (st := st_F_eq) (N := ["self", "other"]) (ps := ["self", "other"]) (qual := "Frac.__eq__") (k := 5) (body := b_F_eq) F sc_F_eq rfl fun cdv A outer s H E C0 Z0 => es_cons (es_if (et_val (ex_callB (bl_isi hT rfl) rfl G.f_isinstance (by kernel_rfl) (ea_cons (ex_var 1) (ea_cons (ex_glob n_Frac rfl rfl G.g_Frac) ea_nil)))) (es_one (es_ret (ex_and (ex_cmp (bin_cmp hT rfl C0 (by decide)) (ex_attr n_num rfl hT rfl C0 (by decide) (ex_var 0)) (ex_attr n_num rfl hT rfl C0 (by decide) (ex_var 1)) (by rfl)) (ex_one (ex_cmp (bin_cmp hT rfl C0 (by decide)) (ex_attr n_den rfl hT rfl C0 (by decide) (ex_var 0)) (ex_attr n_den rfl hT rfl C0 (by decide) (ex_var 1)) (by rfl)))))) (es_nil)) (es_cons (es_if (et_val (ex_callB (bl_isi hT rfl) rfl G.f_isinstance (by kernel_rfl) (ea_cons (ex_var 1) (ea_cons (ex_ty rfl G.f_int (by kernel_rfl)) ea_nil)))) (es_one (es_ret (ex_and (ex_cmp (bin_cmp hT rfl C0 (by decide)) (ex_attr n_den rfl hT rfl C0 (by decide) (ex_var 0)) (ex_int) (by rfl)) (ex_one (ex_cmp (bin_cmp hT rfl C0 (by decide)) (ex_attr n_num rfl hT rfl C0 (by decide) (ex_var 0)) (ex_var 1) (by rfl)))))) (es_nil)) (es_one (es_bad)))
noncomputable def b_F_lt : MS := mSeq (mIfS (mTru (mCall (isiD T1) [mVar 1, mC (.glob n_Frac)])) (mRet (mBin (cmpD T1 .Lt) (mBin (opD T1 .Mult) (mAttr T1 n_num (mVar 0)) (mAttr T1 n_den (mVar 1))) (mBin (opD T1 .Mult) (mAttr T1 n_num (mVar 1)) (mAttr T1 n_den (mVar 0))))) (mNext)) (mSeq (mIfS (mTru (mCall (isiD T1) [mVar 1, mC (.ty "int")])) (mRet (mBin (cmpD T1 .Lt) (mAttr T1 n_num (mVar 0)) (mBin (opD T1 .Mult) (mVar 1) (mAttr T1 n_den (mVar 0))))) (mNext)) ((fun _ _ => .bad)))
noncomputable def m_F_lt : Fn := mDef 2 b_F_lt
theorem sc_F_lt : FnScope ["self", "other"] ["self", "other"] (defScope st_F_lt) := ⟨rfl, rfl, rfl, by decide +kernel, rfl, by decide +kernel, by decide +kernel⟩
theorem ok_F_lt {f : Addr} {fd : FuncData} {dvs : List V} {kws : List (Str × V)} (G : Gn K mg) (hT : T1.Ok P w K mg base 2) (F : FunD K "__lt__" "Frac.__lt__" (defArgs st_F_lt) (defBody st_F_lt) (defScope st_F_lt) dvs kws f fd) : FnOk P w K mg base (L2.CX P w) 6 f fd ["self", "other"] (spM ⟨K, mg, tn, none⟩ 2 m_F_lt) :=
  fn_mk (fl := ⟨tn, none⟩) (st := st_F_lt) (N := ["self", "other"]) (ps := ["self", "other"]) (qual := "Frac.__lt__") (k := 5) (body := b_F_lt) F sc_F_lt rfl fun cdv A outer s H E C0 Z0 => es_cons (es_if (et_val (ex_callB (bl_isi hT rfl) rfl G.f_isinstance (by kernel_rfl) (ea_cons (ex_var 1) (ea_cons (ex_glob n_Frac rfl rfl G.g_Frac) ea_nil)))) (es_one (es_ret (ex_cmp (bin_cmp hT rfl C0 (by decide)) (ex_bin (bin_op hT rfl C0 (by decide)) (ex_attr n_num rfl hT rfl C0 (by decide) (ex_var 0)) (ex_attr n_den rfl hT rfl C0 (by decide) (ex_var 1))) (ex_bin (bin_op hT rfl C0 (by decide)) (ex_attr n_num rfl hT rfl C0 (by decide) (ex_var 1)) (ex_attr n_den rfl hT rfl C0 (by decide) (ex_var 0))) (by rfl)))) (es_nil)) (es_cons (es_if (et_val (ex_callB (bl_isi hT rfl) rfl G.f_isinstance (by kernel_rfl) (ea_cons (ex_var 1) (ea_cons (ex_ty rfl G.f_int (by kernel_rfl)) ea_nil)))) (es_one (es_ret (ex_cmp (bin_cmp hT rfl C0 (by decide)) (ex_attr n_num rfl hT rfl C0 (by decide) (ex_var 0)) (ex_bin (bin_op hT rfl C0 (by decide)) (ex_var 1) (ex_attr n_den rfl hT rfl C0 (by decide) (ex_var 0))) (by rfl)))) (es_nil)) (es_one (es_bad)))
noncomputable def b_F_le : MS := mSeq (mIfS (mTru (mCall (isiD T1) [mVar 1, mC (.glob n_Frac)])) (mRet (mBin (cmpD T1 .LtE) (mBin (opD T1 .Mult) (mAttr T1 n_num (mVar 0)) (mAttr T1 n_den (mVar 1))) (mBin (opD T1 .Mult) (mAttr T1 n_num (mVar 1)) (mAttr T1 n_den (mVar 0))))) (mNext)) (mSeq (mIfS (mTru (mCall (isiD T1) [mVar 1, mC (.ty "int")])) (mRet (mBin (cmpD T1 .LtE) (mAttr T1 n_num (mVar 0)) (mBin (opD T1 .Mult) (mVar 1) (mAttr T1 n_den (mVar 0))))) (mNext)) ((fun _ _ => .bad)))
noncomputable def m_F_le : Fn := mDef 2 b_F_le
theorem sc_F_le : FnScope ["self", "other"] ["self", "other"] (defScope st_F_le) := ⟨rfl, rfl, rfl, by decide +kernel, rfl, by decide +kernel, by decide +kernel⟩
theorem ok_F_le {f : Addr} {fd : FuncData} {dvs : List V} {kws : List (Str × V)} (G : Gn K mg) (hT : T1.Ok P w K mg base 2) (F : FunD K "__le__" "Frac.__le__" (defArgs st_F_le) (defBody st_F_le) (defScope st_F_le) dvs kws f fd) : FnOk P w K mg base (L2.CX P w) 6 f fd ["self", "other"] (spM ⟨K, mg, tn, none⟩ 2 m_F_le) :=
  fn_mk (fl := ⟨tn, none⟩) (st := st_F_le) (N := ["self", "other"]) (ps := ["self", "other"]) (qual := "Frac.__le__") (k := 5) (body := b_F_le) F sc_F_le rfl fun cdv A outer s H E C0 Z0 => es_cons (es_if (et_val (ex_callB (bl_isi hT rfl) rfl G.f_isinstance (by kernel_rfl) (ea_cons (ex_var 1) (ea_cons (ex_glob n_Frac rfl rfl G.g_Frac) ea_nil)))) (es_one (es_ret (ex_cmp (bin_cmp hT rfl C0 (by decide)) (ex_bin (bin_op hT rfl C0 (by decide)) (ex_attr n_num rfl hT rfl C0 (by decide) (ex_var 0)) (ex_attr n_den rfl hT rfl C0 (by decide) (ex_var 1))) (ex_bin (bin_op hT rfl C0 (by decide)) (ex_attr n_num rfl hT rfl C0 (by decide) (ex_var 1)) (ex_attr n_den rfl hT rfl C0 (by decide) (ex_var 0))) (by rfl)))) (es_nil)) (es_cons (es_if (et_val (ex_callB (bl_isi hT rfl) rfl G.f_isinstance (by kernel_rfl) (ea_cons (ex_var 1) (ea_cons (ex_ty rfl G.f_int (by kernel_rfl)) ea_nil)))) (es_one (es_ret (ex_cmp (bin_cmp hT rfl C0 (by decide)) (ex_attr n_num rfl hT rfl C0 (by decide) (ex_var 0)) (ex_bin (bin_op hT rfl C0 (by decide)) (ex_var 1) (ex_attr n_den rfl hT rfl C0 (by decide) (ex_var 0))) (by rfl)))) (es_nil)) (es_one (es_bad)))
noncomputable def b_F_gt : MS := mSeq (mIfS (mTru (mCall (isiD T1) [mVar 1, mC (.glob n_Frac)])) (mRet (mBin (cmpD T1 .Gt) (mBin (opD T1 .Mult) (mAttr T1 n_num (mVar 0)) (mAttr T1 n_den (mVar 1))) (mBin (opD T1 .Mult) (mAttr T1 n_num (mVar 1)) (mAttr T1 n_den (mVar 0))))) (mNext)) (mSeq (mIfS (mTru (mCall (isiD T1) [mVar 1, mC (.ty "int")])) (mRet (mBin (cmpD T1 .Gt) (mAttr T1 n_num (mVar 0)) (mBin (opD T1 .Mult) (mVar 1) (mAttr T1 n_den (mVar 0))))) (mNext)) ((fun _ _ => .bad)))
noncomputable def m_F_gt : Fn := mDef 2 b_F_gt
theorem sc_F_gt : FnScope ["self", "other"] ["self", "other"] (defScope st_F_gt) := ⟨rfl, rfl, rfl, by decide +kernel, rfl, by decide +kernel, by decide +kernel⟩
theorem ok_F_gt {f : Addr} {fd : FuncData} {dvs : List V} {kws : List (Str × V)} (G : Gn K mg) (hT : T1.Ok P w K mg base 2) (F : FunD K "__gt__" "Frac.__gt__" (defArgs st_F_gt) (defBody st_F_gt) (defScope st_F_gt) dvs kws f fd) : FnOk P w K mg base (L2.CX P w) 6 f fd ["self", "other"] (spM ⟨K, mg, tn, none⟩ 2 m_F_gt) :=
  fn_mk (fl := ⟨tn, none⟩) (st := st_F_gt) (N := ["self", "other"]) (ps := ["self", "other"]) (qual := "Frac.__gt__") (k := 5) (body := b_F_gt) F sc_F_gt rfl fun cdv A outer s H E C0 Z0 => es_cons (es_if (et_val (ex_callB (bl_isi hT rfl) rfl G.f_isinstance (by kernel_rfl) (ea_cons (ex_var 1) (ea_cons (ex_glob n_Frac rfl rfl G.g_Frac) ea_nil)))) (es_one (es_ret (ex_cmp (bin_cmp hT rfl C0 (by decide)) (ex_bin (bin_op hT rfl C0 (by decide)) (ex_attr n_num rfl hT rfl C0 (by decide) (ex_var 0)) (ex_attr n_den rfl hT rfl C0 (by decide) (ex_var 1))) (ex_bin (bin_op hT rfl C0 (by decide)) (ex_attr n_num rfl hT rfl C0 (by decide) (ex_var 1)) (ex_attr n_den rfl hT rfl C0 (by decide) (ex_var 0))) (by rfl)))) (es_nil)) (es_cons (es_if (et_val (ex_callB (bl_isi hT rfl) rfl G.f_isinstance (by kernel_rfl) (ea_cons (ex_var 1) (ea_cons (ex_ty rfl G.f_int (by kernel_rfl)) ea_nil)))) (es_one (es_ret (ex_cmp (bin_cmp hT rfl C0 (by decide)) (ex_attr n_num rfl hT rfl C0 (by decide) (ex_var 0)) (ex_bin (bin_op hT rfl C0 (by decide)) (ex_var 1) (ex_attr n_den rfl hT rfl C0 (by decide) (ex_var 0))) (by rfl)))) (es_nil)) (es_one (es_bad)))
noncomputable def b_F_ge : MS := mSeq (mIfS (mTru (mCall (isiD T1) [mVar 1, mC (.glob n_Frac)])) (mRet (mBin (cmpD T1 .GtE) (mBin (opD T1 .Mult) (mAttr T1 n_num (mVar 0)) (mAttr T1 n_den (mVar 1))) (mBin (opD T1 .Mult) (mAttr T1 n_num (mVar 1)) (mAttr T1 n_den (mVar 0))))) (mNext)) (mSeq (mIfS (mTru (mCall (isiD T1) [mVar 1, mC (.ty "int")])) (mRet (mBin (cmpD T1 .GtE) (mAttr T1 n_num (mVar 0)) (mBin (opD T1 .Mult) (mVar 1) (mAttr T1 n_den (mVar 0))))) (mNext)) ((fun _ _ => .bad)))
noncomputable def m_F_ge : Fn := mDef 2 b_F_ge
theorem sc_F_ge : FnScope ["self", "other"] ["self", "other"] (defScope st_F_ge) := ⟨rfl, rfl, rfl, by decide +kernel, rfl, by decide +kernel, by decide +kernel⟩
theorem ok_F_ge {f : Addr} {fd : FuncData} {dvs : List V} {kws : List (Str × V)} (G : Gn K mg) (hT : T1.Ok P w K mg base 2) (F : FunD K "__ge__" "Frac.__ge__" (defArgs st_F_ge) (defBody st_F_ge) (defScope st_F_ge) dvs kws f fd) : FnOk P w K mg base (L2.CX P w) 6 f fd ["self", "other"] (spM ⟨K, mg, tn, none⟩ 2 m_F_ge) :=
  fn_mk (fl := ⟨tn, none⟩) (st := st_F_ge) (N := ["self", "other"]) (ps := ["self", "other"]) (qual := "Frac.__ge__") (k := 5) (body := b_F_ge) F sc_F_ge rfl fun cdv A outer s H E C0 Z0 => es_cons (es_if (et_val (ex_callB (bl_isi hT rfl) rfl G.f_isinstance (by kernel_rfl) (ea_cons (ex_var 1) (ea_cons (ex_glob n_Frac rfl rfl G.g_Frac) ea_nil)))) (es_one (es_ret (ex_cmp (bin_cmp hT rfl C0 (by decide)) (ex_bin (bin_op hT rfl C0 (by decide)) (ex_attr n_num rfl hT rfl C0 (by decide) (ex_var 0)) (ex_attr n_den rfl hT rfl C0 (by decide) (ex_var 1))) (ex_bin (bin_op hT rfl C0 (by decide)) (ex_attr n_num rfl hT rfl C0 (by decide) (ex_var 1)) (ex_attr n_den rfl hT rfl C0 (by decide) (ex_var 0))) (by rfl)))) (es_nil)) (es_cons (es_if (et_val (ex_callB (bl_isi hT rfl) rfl G.f_isinstance (by kernel_rfl) (ea_cons (ex_var 1) (ea_cons (ex_ty rfl G.f_int (by kernel_rfl)) ea_nil)))) (es_one (es_ret (ex_cmp (bin_cmp hT rfl C0 (by decide)) (ex_attr n_num rfl hT rfl C0 (by decide) (ex_var 0)) (ex_bin (bin_op hT rfl C0 (by decide)) (ex_var 1) (ex_attr n_den rfl hT rfl C0 (by decide) (ex_var 0))) (by rfl)))) (es_nil)) (es_one (es_bad)))
noncomputable def b_F_str : MS := mSeq (mIfS (mB (mBin (cmpD T1 .Eq) (mAttr T1 n_den (mVar 0)) (mC (.int 1)))) (mRet (mCall (strD T1) [mAttr T1 n_num (mVar 0)])) (mNext)) (mRet (mJoin [mUn fmtD (mAttr T1 n_num (mVar 0)), mC (.str "/"), mUn fmtD (mAttr T1 n_den (mVar 0))]))
noncomputable def m_F_str : Fn := mDef 1 b_F_str
theorem sc_F_str : FnScope ["self"] ["self"] (defScope st_F_str) := ⟨rfl, rfl, rfl, by decide +kernel, rfl, by decide +kernel, by decide +kernel⟩
theorem ok_F_str {f : Addr} {fd : FuncData} {dvs : List V} {kws : List (Str × V)} (G : Gn K mg) (hT : T1.Ok P w K mg base 2) (F : FunD K "__str__" "Frac.__str__" (defArgs st_F_str) (defBody st_F_str) (defScope st_F_str) dvs kws f fd) : FnOk P w K mg base (L2.CX P w) 6 f fd ["self"] (spM ⟨K, mg, tn, none⟩ 1 m_F_str) :=
  fn_mk (fl := ⟨tn, none⟩) (st := st_F_str) (N := ["self"]) (ps := ["self"]) (qual := "Frac.__str__") (k := 5) (body := b_F_str) F sc_F_str rfl fun cdv A outer s H E C0 Z0 => es_cons (es_if (et_cmp (bin_cmp hT rfl C0 (by decide)) (ex_attr n_den rfl hT rfl C0 (by decide) (ex_var 0)) (ex_int) (by rfl)) (es_one (es_ret (ex_callTy (bl_str hT rfl C0 (by decide)) rfl G.f_str (by kernel_rfl) (ea_cons (ex_attr n_num rfl hT rfl C0 (by decide) (ex_var 0)) ea_nil)))) (es_nil)) (es_one (es_ret (ex_join (.cons (ex_fmt (ex_attr n_num rfl hT rfl C0 (by decide) (ex_var 0))) (.cons (ex_str) (.cons (ex_fmt (ex_attr n_den rfl hT rfl C0 (by decide) (ex_var 0))) .nil))))))
noncomputable def T2 : CT := (((((((((((((((((T1.am n_Frac 21 1 m_F_bool).am n_Frac 19 1 m_F_neg).am n_Frac 20 1 m_F_abs).am n_Frac 1 2 m_F_add).am n_Frac 2 2 m_F_radd).am n_Frac 3 2 m_F_sub).am n_Frac 4 2 m_F_rsub).am n_Frac 5 2 m_F_mul).am n_Frac 6 2 m_F_rmul).am n_Frac 7 2 m_F_floordiv).am n_Frac 11 2 m_F_pow).am n_Frac 13 2 m_F_eq).am n_Frac 15 2 m_F_lt).am n_Frac 16 2 m_F_le).am n_Frac 17 2 m_F_gt).am n_Frac 18 2 m_F_ge).am n_Frac 22 1 m_F_str)
noncomputable def b_F_rfloordiv : MS := mSeq (mIfS (mNot (mTru (mCall (isiD T2) [mVar 1, mC (.ty "int")]))) ((fun _ _ => .bad)) (mNext)) (mRet (mBin (opD T2 .FloorDiv) (mNew T2 n_Frac [mVar 1]) (mVar 0)))
noncomputable def m_F_rfloordiv : Fn := mDef 2 b_F_rfloordiv
theorem sc_F_rfloordiv : FnScope ["self", "other"] ["self", "other"] (defScope st_F_rfloordiv) := ⟨rfl, rfl, rfl, by decide +kernel, rfl, by decide +kernel, by decide +kernel⟩
theorem ok_F_rfloordiv {f : Addr} {fd : FuncData} {dvs : List V} {kws : List (Str × V)} (G : Gn K mg) (hT : T2.Ok P w K mg base 6) (F : FunD K "__rfloordiv__" "Frac.__rfloordiv__" (defArgs st_F_rfloordiv) (defBody st_F_rfloordiv) (defScope st_F_rfloordiv) dvs kws f fd) : FnOk P w K mg base (L2.CX P w) 10 f fd ["self", "other"] (spM ⟨K, mg, tn, none⟩ 2 m_F_rfloordiv) :=
  fn_mk (fl := ⟨tn, none⟩) (st := st_F_rfloordiv) (N := ["self", "other"]) (ps := ["self", "other"]) (qual := "Frac.__rfloordiv__") (k := 9) (body := b_F_rfloordiv) F sc_F_rfloordiv rfl fun cdv A outer s H E C0 Z0 => es_cons (es_if (et_not (et_val (ex_callB (bl_isi hT rfl) rfl G.f_isinstance (by kernel_rfl) (ea_cons (ex_var 1) (ea_cons (ex_ty rfl G.f_int (by kernel_rfl)) ea_nil))))) (es_one (es_bad)) (es_nil)) (es_one (es_ret (ex_bin (bin_op hT rfl C0 (by decide)) (ex_new n_Frac rfl hT rfl C0 (by decide) rfl rfl (ea_cons (ex_var 1) ea_nil)) (ex_var 0))))
noncomputable def T3 : CT := (T2.am n_Frac 8 2 m_F_rfloordiv)
noncomputable def b_F_mod : MS := mSeq (mIfS (mNot (mTru (mCall (isiD T3) [mVar 1, mTup [mC (.ty "int"), mC (.glob n_Frac)]]))) ((fun _ _ => .bad)) (mNext)) (mRet (mBin (opD T3 .Sub) (mVar 0) (mBin (opD T3 .Mult) (mVar 1) (mBin (opD T3 .FloorDiv) (mVar 0) (mVar 1)))))
noncomputable def m_F_mod : Fn := mDef 2 b_F_mod
theorem sc_F_mod : FnScope ["self", "other"] ["self", "other"] (defScope st_F_mod) := ⟨rfl, rfl, rfl, by decide +kernel, rfl, by decide +kernel, by decide +kernel⟩
theorem ok_F_mod {f : Addr} {fd : FuncData} {dvs : List V} {kws : List (Str × V)} (G : Gn K mg) (hT : T3.Ok P w K mg base 10) (F : FunD K "__mod__" "Frac.__mod__" (defArgs st_F_mod) (defBody st_F_mod) (defScope st_F_mod) dvs kws f fd) : FnOk P w K mg base (L2.CX P w) 14 f fd ["self", "other"] (spM ⟨K, mg, tn, none⟩ 2 m_F_mod) :=
  fn_mk (fl := ⟨tn, none⟩) (st := st_F_mod) (N := ["self", "other"]) (ps := ["self", "other"]) (qual := "Frac.__mod__") (k := 13) (body := b_F_mod) F sc_F_mod rfl fun cdv A outer s H E C0 Z0 => es_cons (es_if (et_not (et_val (ex_callB (bl_isi hT rfl) rfl G.f_isinstance (by kernel_rfl) (ea_cons (ex_var 1) (ea_cons (ex_tup (ea_cons (ex_ty rfl G.f_int (by kernel_rfl)) (ea_cons (ex_glob n_Frac rfl rfl G.g_Frac) ea_nil))) ea_nil))))) (es_one (es_bad)) (es_nil)) (es_one (es_ret (ex_bin (bin_op hT rfl C0 (by decide)) (ex_var 0) (ex_bin (bin_op hT rfl C0 (by decide)) (ex_var 1) (ex_bin (bin_op hT rfl C0 (by decide)) (ex_var 0) (ex_var 1))))))
noncomputable def T3b : CT := (T3.am n_Frac 9 2 m_F_mod)
noncomputable def b_F_rmod : MS := mSeq (mIfS (mNot (mTru (mCall (isiD T3b) [mVar 1, mC (.ty "int")]))) ((fun _ _ => .bad)) (mNext)) (mRet (mBin (opD T3b .Mod) (mNew T3b n_Frac [mVar 1]) (mVar 0)))
noncomputable def m_F_rmod : Fn := mDef 2 b_F_rmod
theorem sc_F_rmod : FnScope ["self", "other"] ["self", "other"] (defScope st_F_rmod) := ⟨rfl, rfl, rfl, by decide +kernel, rfl, by decide +kernel, by decide +kernel⟩
theorem ok_F_rmod {f : Addr} {fd : FuncData} {dvs : List V} {kws : List (Str × V)} (G : Gn K mg) (hT : T3b.Ok P w K mg base 14) (F : FunD K "__rmod__" "Frac.__rmod__" (defArgs st_F_rmod) (defBody st_F_rmod) (defScope st_F_rmod) dvs kws f fd) : FnOk P w K mg base (L2.CX P w) 18 f fd ["self", "other"] (spM ⟨K, mg, tn, none⟩ 2 m_F_rmod) :=
  fn_mk (fl := ⟨tn, none⟩) (st := st_F_rmod) (N := ["self", "other"]) (ps := ["self", "other"]) (qual := "Frac.__rmod__") (k := 17) (body := b_F_rmod) F sc_F_rmod rfl fun cdv A outer s H E C0 Z0 => es_cons (es_if (et_not (et_val (ex_callB (bl_isi hT rfl) rfl G.f_isinstance (by kernel_rfl) (ea_cons (ex_var 1) (ea_cons (ex_ty rfl G.f_int (by kernel_rfl)) ea_nil))))) (es_one (es_bad)) (es_nil)) (es_one (es_ret (ex_bin (bin_op hT rfl C0 (by decide)) (ex_new n_Frac rfl hT rfl C0 (by decide) rfl rfl (ea_cons (ex_var 1) ea_nil)) (ex_var 0))))
noncomputable def T4 : CT := (T3b.am n_Frac 10 2 m_F_rmod)
noncomputable def T5 : CT := T4.an n_Frac
theorem bi_F_init {f : Addr} {fd : FuncData} (F : FunD K "__init__" "Frac.__init__" (defArgs st_F_init) (defBody st_F_init) (defScope st_F_init) [.int 0, .int 1] [] f fd) : ∀ j, j ≤ 2 → ∃ dus, Vals (([.int 0, .int 1] : List V).drop j) dus ∧ Binds K fd ["self", "num", "den"] dus
  | 0, _ => F.binds1 1 0 (by simp) rfl fun T kV doc pm an cdv ct us its h1 h2 => match us, its, h1, h2 with
    | [_], [_, _], _, _ => ⟨_, rfl, rfl⟩
  | 1, _ => F.binds1 2 1 (by simp) rfl fun T kV doc pm an cdv ct us its h1 h2 => match us, its, h1, h2 with
    | [_, _], [_, _], _, _ => ⟨_, rfl, rfl⟩
  | 2, _ => F.binds1 3 2 (by simp) rfl fun T kV doc pm an cdv ct us its h1 h2 => match us, its, h1, h2 with
    | [_, _, _], [_, _], _, _ => ⟨_, rfl, rfl⟩
  | j + 3, h => absurd h (by omega)
theorem ni_F_eq {f : Addr} {fd : FuncData} (G : Gn K mg) (hT : T1.Ok P w K mg base 2) (F : FunD K "__eq__" "Frac.__eq__" (defArgs st_F_eq) (defBody st_F_eq) (defScope st_F_eq) [] [] f fd) : NiOk P w K mg base tn 18 n_Frac f fd :=
  ni_mk (tn := tn) (st := st_F_eq) (N := ["self", "other"]) (qual := "Frac.__eq__") (k := 17) (m1 := mIfS (mTru (mCall (isiD T1) [mVar 1, mC (.glob n_Frac)])) (fun _ _ => .bad) mNext) (m2 := mIfS (mTru (mCall (isiD T1) [mVar 1, mC (.ty "int")])) (fun _ _ => .bad) mNext) F sc_F_eq rfl G.f_NotImplemented (fun _ _ _ _ _ => rfl)
    (fun _ _ _ _ _ => es_if (et_val (ex_callB (bl_isi hT rfl) rfl G.f_isinstance (by kernel_rfl) (ea_cons (ex_var 1) (ea_cons (ex_glob n_Frac rfl rfl G.g_Frac) ea_nil)))) (es_one es_bad) es_nil)
    (fun _ _ _ _ _ => es_if (et_val (ex_callB (bl_isi hT rfl) rfl G.f_isinstance (by kernel_rfl) (ea_cons (ex_var 1) (ea_cons (ex_ty rfl G.f_int (by kernel_rfl)) ea_nil)))) (es_one es_bad) es_nil)
    (by
      rintro xs y env S (rfl | ⟨z, rfl⟩) rfl
      · exact ⟨by kernel_rfl, by kernel_rfl⟩
      · exact ⟨by kernel_rfl, by kernel_rfl⟩)
theorem sc_BadNumber_init : NScope ["self", "text", "__class__"] ["self", "text"] ["__class__"] (defScope st_BadNumber_init) := nscope_by (by decide +kernel)
theorem ok_BadNumber_init {f : Addr} {fd : FuncData} {dvs : List V} {kws : List (Str × V)} (G : Gn K mg) (hx : xclsCk K "BadNumber" ["text"] = true) (hPf : ((P.main.file : Str) == FILE) = true) (hPt : (P.main.scope.names.lookup ("super" : Str)).isSome = false) (F : FunS K "__init__" "BadNumber.__init__" (defArgs st_BadNumber_init) (defBody st_BadNumber_init) (defScope st_BadNumber_init) (ga K "BadNumber") dvs kws FILE f fd) : FnOk P w K mg base (L2.CX P w) 1 f fd ["self", "text"] (spT ["self", "text", "__class__"] ["self", "text"] (tXin K (ga K "BadNumber") "not the written form of a number" (List.zip ["text"] [1]))) :=
  fn_mkX (st := st_BadNumber_init) (N := ["self", "text", "__class__"]) (ps := ["self", "text"]) (qual := "BadNumber.__init__") (file := FILE) (slf := "self") (k := 0) F sc_BadNumber_init ⟨_, rfl, rfl⟩ hPf hPt fun cc c A outer s H E SE => psa_cons (t1 := tDrop (tXsup K (ga K "BadNumber") (tCons (tC (.str "not the written form of a number")) tNil))) (t2 := tXf K (List.zip ["text"] [1])) (pa1_expr (pea_exsuper SE rfl rfl (Or.inl rfl) (fun hh => nomatch (show some NameKind.local = some NameKind.free from hh)) rfl G.f_super (xf_ok hx).st (xf_ok hx).cd (pa_cons pe_str pa_nil))) (psa_cons (t1 := tOst K "text" (tVar 0) (tVar 1)) (pa1_of (ps_ost (pe_var (x := "self") rfl (Or.inl rfl)) (pe_var (x := "text") rfl (Or.inl rfl)))) psa_nil)
noncomputable def b_is_figures : MS := mRet (mAndV (mBin (cmpD T5 .LtE) (mCall lenD [mVar 0]) (mC (.int 40))) (mBm "str" isdD (mVar 0) []))
noncomputable def m_is_figures : Fn := mDef 1 b_is_figures
theorem sc_is_figures : FnScope ["word"] ["word"] (defScope st_is_figures) := ⟨rfl, rfl, rfl, by decide +kernel, rfl, by decide +kernel, by decide +kernel⟩
theorem ok_is_figures {f : Addr} {fd : FuncData} {dvs : List V} {kws : List (Str × V)} (G : Gn K mg) (h5 : T5.Ok P w K mg base 18) (hT : T5.Ok P w K mg base 18) (F : FunD K "is_figures" "is_figures" (defArgs st_is_figures) (defBody st_is_figures) (defScope st_is_figures) dvs kws f fd) : FnOk P w K mg base (L2.CX P w) 22 f fd ["word"] (spM ⟨K, mg, tn, none⟩ 1 m_is_figures) :=
  fn_mk (fl := ⟨tn, none⟩) (st := st_is_figures) (N := ["word"]) (ps := ["word"]) (qual := "is_figures") (k := 21) (body := b_is_figures) F sc_is_figures rfl fun cdv A outer s H E C0 Z0 => es_one (es_ret (ex_and (ex_cmp (bin_cmp h5 rfl C0 (by decide)) (ex_callB bl_len rfl G.f_len (by kernel_rfl) (ea_cons (ex_var 0) ea_nil)) (ex_ccon G.c_Frac_MOST_FIGURES rfl G.g_Frac) (by first | rfl | with_unfolding_all rfl)) (ex_one (ex_bm0 PySem.F.plainAttrs_str PySem.F.slot_str_isdigit PySem.F.type_str_isdigit bl_isd (ex_var 0)))))
noncomputable def jb_F_read_0 : MS := mIfS (mB (mBin (cmpD T5 .Eq) (mVar 3) (mC (.str "")))) (mAsg 4 (mC (.str "1"))) (mNext)
noncomputable def jb_F_read_1 : MS := mIfS (mB (mBin (cmpD T5 .NotEq) (mVar 1) (mVar 0))) (mAsg 5 (mUn (negD T5) (mVar 5))) (mNext)
noncomputable def b_F_read : MS := mSeq (mAsg 1 (mBm "str" rmpD (mVar 0) [mC (.str "-")])) (mSeq (mAsgG (gTup [gNm 2, gNm 3, gNm 4]) (mBm "str" parD (mVar 1) [mC (.str "/")])) (mSeq (jb_F_read_0) (mSeq (mIfS (mOr (mNot (mTru (mCall m_is_figures [mVar 2]))) (mNot (mTru (mCall m_is_figures [mVar 4])))) (mRaiseF n_BadNumber 1 [n_text] [mVar 0]) (mNext)) (mSeq (mIfS (mB (mBin (cmpD T5 .Eq) (mCall intXD [mVar 4]) (mC (.int 0)))) (mRaiseF n_BadNumber 1 [n_text] [mVar 0]) (mNext)) (mSeq (mAsg 5 (mNew T5 n_Frac [mCall intXD [mVar 2], mCall intXD [mVar 4]])) (mSeq (jb_F_read_1) (mSeq (mIfS (mB (mBin (cmpD T5 .NotEq) (mCall (strD T5) [mVar 5]) (mVar 0))) (mRaiseF n_BadNumber 1 [n_text] [mVar 0]) (mNext)) (mRet (mVar 5)))))))))
noncomputable def m_F_read : Fn := mDef 6 b_F_read
theorem sc_F_read : FnScope ["text", "figures", "above", "slash", "below", "number"] ["text"] (defScope st_F_read) := ⟨rfl, rfl, rfl, by decide +kernel, rfl, by decide +kernel, by decide +kernel⟩
theorem ok_F_read {f : Addr} {fd : FuncData} {dvs : List V} {kws : List (Str × V)} (G : Gn K mg) (h5 : T5.Ok P w K mg base 18) (hT : T5.Ok P w K mg base 18) (D_is_figures : DefOk P w K mg base tn 22 "is_figures" 1 m_is_figures) (XM_BadNumber : ExcMk P w K mg base tn 1 n_BadNumber 1 [n_text]) (F : FunD K "read" "Frac.read" (defArgs st_F_read) (defBody st_F_read) (defScope st_F_read) dvs kws f fd) : FnOk P w K mg base (L2.CX P w) 23 f fd ["text"] (spM ⟨K, mg, tn, none⟩ 1 m_F_read) :=
  fn_mk (fl := ⟨tn, none⟩) (st := st_F_read) (N := ["text", "figures", "above", "slash", "below", "number"]) (ps := ["text"]) (qual := "Frac.read") (k := 22) (body := b_F_read) F sc_F_read rfl fun cdv A outer s H E C0 Z0 => es_cons (es_set sc_F_read.nd rfl (Or.inl rfl) (ex_bm PySem.F.plainAttrs_str PySem.F.slot_str_removeprefix PySem.F.type_str_removeprefix bl_rmp (ex_var 0) (ea_cons (ex_str) ea_nil))) (es_cons (es_asg (ex_bm PySem.F.plainAttrs_str PySem.F.slot_str_partition PySem.F.type_str_partition bl_par (ex_var 1) (ea_cons (ex_str) ea_nil)) (eg_tup C0.calm (egs_cons (eg_name sc_F_read.nd rfl (Or.inl rfl)) (egs_cons (eg_name sc_F_read.nd rfl (Or.inl rfl)) (egs_cons (eg_name sc_F_read.nd rfl (Or.inl rfl)) egs_nil)))) (plain_tup (plain_cons (plain_nm 2) (plain_cons (plain_nm 3) (plain_cons (plain_nm 4) plain_nil))))) (es_cons (es_if (et_cmp (bin_cmp h5 rfl C0 (by decide)) (ex_var 3) (ex_str) (by first | rfl | with_unfolding_all rfl)) (es_one (es_set sc_F_read.nd rfl (Or.inl rfl) (ex_str))) (es_nil)) (es_cons (es_if (EW.et (ew_or (et_not (et_val (ex_call D_is_figures C0 (by decide) rfl (ea_cons (ex_var 2) ea_nil)))) (ew_or1 (et_not (et_val (ex_call D_is_figures C0 (by decide) rfl (ea_cons (ex_var 4) ea_nil))))))) (es_one (es_raiseF n_BadNumber 1 [n_text] rfl XM_BadNumber C0 (by decide) rfl (ea_cons (ex_var 0) ea_nil))) (es_nil)) (es_cons (es_if (et_cmp (bin_cmp h5 rfl C0 (by decide)) (ex_callTy bl_intX rfl G.f_int (by kernel_rfl) (ea_cons (ex_var 4) ea_nil)) (ex_int) (by first | rfl | with_unfolding_all rfl)) (es_one (es_raiseF n_BadNumber 1 [n_text] rfl XM_BadNumber C0 (by decide) rfl (ea_cons (ex_var 0) ea_nil))) (es_nil)) (es_cons (es_set sc_F_read.nd rfl (Or.inl rfl) (ex_new n_Frac rfl h5 rfl C0 (by decide) rfl rfl (ea_cons (ex_callTy bl_intX rfl G.f_int (by kernel_rfl) (ea_cons (ex_var 2) ea_nil)) (ea_cons (ex_callTy bl_intX rfl G.f_int (by kernel_rfl) (ea_cons (ex_var 4) ea_nil)) ea_nil)))) (es_cons (es_if (et_cmp (bin_cmp h5 rfl C0 (by decide)) (ex_var 1) (ex_var 0) (by first | rfl | with_unfolding_all rfl)) (es_one (es_set sc_F_read.nd rfl (Or.inl rfl) (ex_un (un_negD h5 rfl C0 (by decide)) (ex_var 5)))) (es_nil)) (es_cons (es_if (et_cmp (bin_cmp h5 rfl C0 (by decide)) (ex_callTy (bl_str h5 rfl C0 (by decide)) rfl G.f_str (by kernel_rfl) (ea_cons (ex_var 5) ea_nil)) (ex_var 0) (by first | rfl | with_unfolding_all rfl)) (es_one (es_raiseF n_BadNumber 1 [n_text] rfl XM_BadNumber C0 (by decide) rfl (ea_cons (ex_var 0) ea_nil))) (es_nil)) (es_one (es_ret (ex_var 5))))))))))
noncomputable def b__law_cell : MS := mSeq (mIfS (mB (mBin (cmpD T5 .Lt) (mVar 1) (mCall lenD [mVar 0]))) (mRet (mBin (opD T5 .Mod) (mCall intD [mBin ixD (mVar 0) (mVar 1)]) (mBin (opD T5 .Pow) (mC (.int 10)) (mC (.int 18))))) (mNext)) (mRet (mBin (opD T5 .Add) (mBin (opD T5 .Mult) (mC (.int 5)) (mVar 1)) (mC (.int 1))))
noncomputable def m__law_cell : Fn := mDef 2 b__law_cell
theorem sc__law_cell : FnScope ["_law_script", "_law_k"] ["_law_script", "_law_k"] (defScope st__law_cell) := ⟨rfl, rfl, rfl, by decide +kernel, rfl, by decide +kernel, by decide +kernel⟩
theorem ok__law_cell {f : Addr} {fd : FuncData} {dvs : List V} {kws : List (Str × V)} (G : Gn K mg) (h5 : T5.Ok P w K mg base 18) (hT : T5.Ok P w K mg base 18) (F : FunD K "_law_cell" "_law_cell" (defArgs st__law_cell) (defBody st__law_cell) (defScope st__law_cell) dvs kws f fd) : FnOk P w K mg base (L2.CX P w) 22 f fd ["_law_script", "_law_k"] (spM ⟨K, mg, tn, none⟩ 2 m__law_cell) :=
  fn_mk (fl := ⟨tn, none⟩) (st := st__law_cell) (N := ["_law_script", "_law_k"]) (ps := ["_law_script", "_law_k"]) (qual := "_law_cell") (k := 21) (body := b__law_cell) F sc__law_cell rfl fun cdv A outer s H E C0 Z0 => es_cons (es_if (et_cmp (bin_cmp h5 rfl C0 (by decide)) (ex_var 1) (ex_callB bl_len rfl G.f_len (by kernel_rfl) (ea_cons (ex_var 0) ea_nil)) (by first | rfl | with_unfolding_all rfl)) (es_one (es_ret (ex_bin (bin_op h5 rfl C0 (by decide)) (ex_callTy bl_int rfl G.f_int (by kernel_rfl) (ea_cons (ex_ix (ex_var 0) (ex_var 1)) ea_nil)) (ex_bin (bin_op h5 rfl C0 (by decide)) (ex_int) (ex_int))))) (es_nil)) (es_one (es_ret (ex_bin (bin_op h5 rfl C0 (by decide)) (ex_bin (bin_op h5 rfl C0 (by decide)) (ex_int) (ex_var 1)) (ex_int))))
noncomputable def lb__law_gcd_0 : MS := mSeq (mAsg 2 (mBin (opD T5 .Mod) (mCall intD [mVar 0]) (mVar 1))) (mSeq (mAsg 0 (mVar 1)) (mAsg 1 (mVar 2)))
noncomputable def b__law_gcd : MS := mSeq (mAsg 0 (mCall (absD T5) [mVar 0])) (mSeq (mAsg 1 (mCall (absD T5) [mVar 1])) (mSeq (mWhile (fuelN 1) (mB (mBin (cmpD T5 .NotEq) (mVar 1) (mC (.int 0)))) lb__law_gcd_0) (mRet (mVar 0))))
noncomputable def m__law_gcd : Fn := mDef 3 b__law_gcd
theorem sc__law_gcd : FnScope ["_law_first", "_law_second", "_law_rest"] ["_law_first", "_law_second"] (defScope st__law_gcd) := ⟨rfl, rfl, rfl, by decide +kernel, rfl, by decide +kernel, by decide +kernel⟩
theorem ok__law_gcd {f : Addr} {fd : FuncData} {dvs : List V} {kws : List (Str × V)} (G : Gn K mg) (h5 : T5.Ok P w K mg base 18) (hT : T5.Ok P w K mg base 18) (F : FunD K "_law_gcd" "_law_gcd" (defArgs st__law_gcd) (defBody st__law_gcd) (defScope st__law_gcd) dvs kws f fd) : FnOk P w K mg base (L2.CX P w) 22 f fd ["_law_first", "_law_second"] (spM ⟨K, mg, tn, none⟩ 2 m__law_gcd) :=
  fn_mk (fl := ⟨tn, none⟩) (st := st__law_gcd) (N := ["_law_first", "_law_second", "_law_rest"]) (ps := ["_law_first", "_law_second"]) (qual := "_law_gcd") (k := 21) (body := b__law_gcd) F sc__law_gcd rfl fun cdv A outer s H E C0 Z0 => es_cons (es_set sc__law_gcd.nd rfl (Or.inl rfl) (ex_callB (bl_abs h5 rfl C0 (by decide)) rfl G.f_abs (by kernel_rfl) (ea_cons (ex_var 0) ea_nil))) (es_cons (es_set sc__law_gcd.nd rfl (Or.inl rfl) (ex_callB (bl_abs h5 rfl C0 (by decide)) rfl G.f_abs (by kernel_rfl) (ea_cons (ex_var 1) ea_nil))) (es_cons (es_while (fuelN 1) C0.po (et_cmp (bin_cmp h5 rfl C0 (by decide)) (ex_var 1) (ex_int) (by first | rfl | with_unfolding_all rfl)) (es_cons (es_set sc__law_gcd.nd rfl (Or.inl rfl) (ex_bin (bin_op h5 rfl C0 (by decide)) (ex_callTy bl_int rfl G.f_int (by kernel_rfl) (ea_cons (ex_var 0) ea_nil)) (ex_var 1))) (es_cons (es_set sc__law_gcd.nd rfl (Or.inl rfl) (ex_var 1)) (es_one (es_set sc__law_gcd.nd rfl (Or.inl rfl) (ex_var 2)))))) (es_one (es_ret (ex_var 0)))))
noncomputable def b__law_low : MS := mSeq (mAsg 2 (mCall m__law_gcd [mVar 0, mVar 1])) (mRet (mTup [mBin (opD T5 .FloorDiv) (mVar 0) (mVar 2), mBin (opD T5 .FloorDiv) (mVar 1) (mVar 2)]))
noncomputable def m__law_low : Fn := mDef 3 b__law_low
theorem sc__law_low : FnScope ["_law_num", "_law_den", "_law_shared"] ["_law_num", "_law_den"] (defScope st__law_low) := ⟨rfl, rfl, rfl, by decide +kernel, rfl, by decide +kernel, by decide +kernel⟩
theorem ok__law_low {f : Addr} {fd : FuncData} {dvs : List V} {kws : List (Str × V)} (G : Gn K mg) (h5 : T5.Ok P w K mg base 18) (hT : T5.Ok P w K mg base 18) (D__law_gcd : DefOk P w K mg base tn 22 "_law_gcd" 2 m__law_gcd) (F : FunD K "_law_low" "_law_low" (defArgs st__law_low) (defBody st__law_low) (defScope st__law_low) dvs kws f fd) : FnOk P w K mg base (L2.CX P w) 23 f fd ["_law_num", "_law_den"] (spM ⟨K, mg, tn, none⟩ 2 m__law_low) :=
  fn_mk (fl := ⟨tn, none⟩) (st := st__law_low) (N := ["_law_num", "_law_den", "_law_shared"]) (ps := ["_law_num", "_law_den"]) (qual := "_law_low") (k := 22) (body := b__law_low) F sc__law_low rfl fun cdv A outer s H E C0 Z0 => es_cons (es_set sc__law_low.nd rfl (Or.inl rfl) (ex_call D__law_gcd C0 (by decide) rfl (ea_cons (ex_var 0) (ea_cons (ex_var 1) ea_nil)))) (es_one (es_ret (ex_tup (ea_cons (ex_bin (bin_op h5 rfl C0 (by decide)) (ex_var 0) (ex_var 2)) (ea_cons (ex_bin (bin_op h5 rfl C0 (by decide)) (ex_var 1) (ex_var 2)) ea_nil)))))
noncomputable def lb__law_number_0 : MS := mAsg 3 (mBin (opD T5 .Add) (mBin (opD T5 .Mult) (mVar 3) (mBin (opD T5 .Pow) (mC (.int 10)) (mC (.int 18)))) (mCall m__law_cell [mVar 0, mBin (opD T5 .Add) (mVar 1) (mVar 4)]))
noncomputable def lb__law_number_1 : MS := mAsg 5 (mBin (opD T5 .Mult) (mVar 5) (mC (.int 10)))
noncomputable def b__law_number : MS := mSeq (mAsg 3 (mC (.int 0))) (mSeq (mFor (iRange1 (mC (.int 3))) (gNm 4) lb__law_number_0) (mSeq (mAsg 5 (mC (.int 1))) (mSeq (mFor (iRange1 (mBin (opD T5 .Sub) (mVar 2) (mC (.int 1)))) (gNm 4) lb__law_number_1) (mRet (mBin (opD T5 .Add) (mVar 5) (mBin (opD T5 .Mod) (mCall intD [mVar 3]) (mBin (opD T5 .Mult) (mC (.int 9)) (mVar 5))))))))
noncomputable def m__law_number : Fn := mDef 6 b__law_number
theorem sc__law_number : FnScope ["_law_script", "_law_k", "_law_figures_here", "_law_great", "_law_j", "_law_least"] ["_law_script", "_law_k", "_law_figures_here"] (defScope st__law_number) := ⟨rfl, rfl, rfl, by decide +kernel, rfl, by decide +kernel, by decide +kernel⟩
theorem ok__law_number {f : Addr} {fd : FuncData} {dvs : List V} {kws : List (Str × V)} (G : Gn K mg) (h5 : T5.Ok P w K mg base 18) (hT : T5.Ok P w K mg base 18) (D__law_cell : DefOk P w K mg base tn 22 "_law_cell" 2 m__law_cell) (F : FunD K "_law_number" "_law_number" (defArgs st__law_number) (defBody st__law_number) (defScope st__law_number) dvs kws f fd) : FnOk P w K mg base (L2.CX P w) 23 f fd ["_law_script", "_law_k", "_law_figures_here"] (spM ⟨K, mg, tn, none⟩ 3 m__law_number) :=
  fn_mk (fl := ⟨tn, none⟩) (st := st__law_number) (N := ["_law_script", "_law_k", "_law_figures_here", "_law_great", "_law_j", "_law_least"]) (ps := ["_law_script", "_law_k", "_law_figures_here"]) (qual := "_law_number") (k := 22) (body := b__law_number) F sc__law_number rfl fun cdv A outer s H E C0 Z0 => es_cons (es_set sc__law_number.nd rfl (Or.inl rfl) (ex_int)) (es_cons (es_for C0.po C0.calm (ei_range1 rfl G.f_range (ea_cons (ex_int) ea_nil)) (eg_name sc__law_number.nd rfl (Or.inl rfl)) (plain_nm 4) (es_one (es_set sc__law_number.nd rfl (Or.inl rfl) (ex_bin (bin_op h5 rfl C0 (by decide)) (ex_bin (bin_op h5 rfl C0 (by decide)) (ex_var 3) (ex_bin (bin_op h5 rfl C0 (by decide)) (ex_int) (ex_int))) (ex_call D__law_cell C0 (by decide) rfl (ea_cons (ex_var 0) (ea_cons (ex_bin (bin_op h5 rfl C0 (by decide)) (ex_var 1) (ex_var 4)) ea_nil))))))) (es_cons (es_set sc__law_number.nd rfl (Or.inl rfl) (ex_int)) (es_cons (es_for C0.po C0.calm (ei_range1 rfl G.f_range (ea_cons (ex_bin (bin_op h5 rfl C0 (by decide)) (ex_var 2) (ex_int)) ea_nil)) (eg_name sc__law_number.nd rfl (Or.inl rfl)) (plain_nm 4) (es_one (es_set sc__law_number.nd rfl (Or.inl rfl) (ex_bin (bin_op h5 rfl C0 (by decide)) (ex_var 5) (ex_int))))) (es_one (es_ret (ex_bin (bin_op h5 rfl C0 (by decide)) (ex_var 5) (ex_bin (bin_op h5 rfl C0 (by decide)) (ex_callTy bl_int rfl G.f_int (by kernel_rfl) (ea_cons (ex_var 3) ea_nil)) (ex_bin (bin_op h5 rfl C0 (by decide)) (ex_int) (ex_var 5)))))))))
noncomputable def jb__law_drawn_0 : MS := mIfS (mOr (mB (mBin (cmpD T5 .Eq) (mVar 4) (mC (.int 1)))) (mB (mBin (cmpD T5 .Eq) (mVar 4) (mC (.int 5))))) (mAsg 1 (mC (.int 40))) (mNext)
noncomputable def jb__law_drawn_1 : MS := mIfS (mB (mBin (cmpD T5 .Eq) (mVar 4) (mC (.int 2)))) (mAsg 1 (mC (.int 41))) (mNext)
noncomputable def jb__law_drawn_2 : MS := mIfS (mOr (mB (mBin (cmpD T5 .Eq) (mVar 4) (mC (.int 3)))) (mB (mBin (cmpD T5 .Eq) (mVar 4) (mC (.int 5))))) (mAsg 2 (mC (.int 40))) (mNext)
noncomputable def jb__law_drawn_3 : MS := mIfS (mB (mBin (cmpD T5 .Eq) (mVar 4) (mC (.int 4)))) (mAsg 2 (mC (.int 41))) (mNext)
noncomputable def jb__law_drawn_4 : MS := mIfS (mB (mBin (cmpD T5 .NotEq) (mBin (opD T5 .Mod) (mCall intD [mCall m__law_cell [mVar 0, mC (.int 4)]]) (mC (.int 3))) (mC (.int 0)))) (mAsg 6 (mCall m__law_number [mVar 0, mC (.int 5), mVar 2])) (mNext)
noncomputable def jb__law_drawn_5 : MS := mIfS (mB (mBin (cmpD T5 .Eq) (mBin (opD T5 .Mod) (mCall intD [mVar 3]) (mC (.int 2))) (mC (.int 1)))) (mAsg 5 (mUn (negD T5) (mVar 5))) (mNext)
noncomputable def jb__law_drawn_6 : MS := mIfS (mB (mBin (cmpD T5 .Eq) (mBin (opD T5 .Mod) (mCall intD [mBin (opD T5 .FloorDiv) (mVar 3) (mC (.int 2))]) (mC (.int 9))) (mC (.int 4)))) (mAsg 5 (mC (.int 0))) (mNext)
noncomputable def b__law_drawn : MS := mSeq (mAsg 1 (mBin (opD T5 .Add) (mC (.int 1)) (mBin (opD T5 .Mod) (mCall intD [mCall m__law_cell [mVar 0, mC (.int 0)]]) (mC (.int 41))))) (mSeq (mAsg 2 (mBin (opD T5 .Add) (mC (.int 1)) (mBin (opD T5 .Mod) (mCall intD [mBin (opD T5 .FloorDiv) (mCall m__law_cell [mVar 0, mC (.int 4)]) (mC (.int 3))]) (mC (.int 41))))) (mSeq (mAsg 3 (mCall m__law_cell [mVar 0, mC (.int 8)])) (mSeq (mAsg 4 (mBin (opD T5 .Mod) (mCall intD [mBin (opD T5 .FloorDiv) (mVar 3) (mC (.int 18))]) (mC (.int 8)))) (mSeq (jb__law_drawn_0) (mSeq (jb__law_drawn_1) (mSeq (jb__law_drawn_2) (mSeq (jb__law_drawn_3) (mSeq (mAsg 5 (mCall m__law_number [mVar 0, mC (.int 1), mVar 1])) (mSeq (mAsg 6 (mC (.int 1))) (mSeq (jb__law_drawn_4) (mSeq (jb__law_drawn_5) (mSeq (jb__law_drawn_6) (mRet (mCall m__law_low [mVar 5, mVar 6]))))))))))))))
noncomputable def m__law_drawn : Fn := mDef 7 b__law_drawn
theorem sc__law_drawn : FnScope ["_law_script", "_law_figures_here", "_law_below", "_law_kind", "_law_edge", "_law_num", "_law_den"] ["_law_script"] (defScope st__law_drawn) := ⟨rfl, rfl, rfl, by decide +kernel, rfl, by decide +kernel, by decide +kernel⟩
theorem ok__law_drawn {f : Addr} {fd : FuncData} {dvs : List V} {kws : List (Str × V)} (G : Gn K mg) (h5 : T5.Ok P w K mg base 18) (hT : T5.Ok P w K mg base 18) (D__law_cell : DefOk P w K mg base tn 22 "_law_cell" 2 m__law_cell) (D__law_number : DefOk P w K mg base tn 23 "_law_number" 3 m__law_number) (D__law_low : DefOk P w K mg base tn 23 "_law_low" 2 m__law_low) (F : FunD K "_law_drawn" "_law_drawn" (defArgs st__law_drawn) (defBody st__law_drawn) (defScope st__law_drawn) dvs kws f fd) : FnOk P w K mg base (L2.CX P w) 24 f fd ["_law_script"] (spM ⟨K, mg, tn, none⟩ 1 m__law_drawn) :=
  fn_mk (fl := ⟨tn, none⟩) (st := st__law_drawn) (N := ["_law_script", "_law_figures_here", "_law_below", "_law_kind", "_law_edge", "_law_num", "_law_den"]) (ps := ["_law_script"]) (qual := "_law_drawn") (k := 23) (body := b__law_drawn) F sc__law_drawn rfl fun cdv A outer s H E C0 Z0 => es_cons (es_set sc__law_drawn.nd rfl (Or.inl rfl) (ex_bin (bin_op h5 rfl C0 (by decide)) (ex_int) (ex_bin (bin_op h5 rfl C0 (by decide)) (ex_callTy bl_int rfl G.f_int (by kernel_rfl) (ea_cons (ex_call D__law_cell C0 (by decide) rfl (ea_cons (ex_var 0) (ea_cons (ex_int) ea_nil))) ea_nil)) (ex_int)))) (es_cons (es_set sc__law_drawn.nd rfl (Or.inl rfl) (ex_bin (bin_op h5 rfl C0 (by decide)) (ex_int) (ex_bin (bin_op h5 rfl C0 (by decide)) (ex_callTy bl_int rfl G.f_int (by kernel_rfl) (ea_cons (ex_bin (bin_op h5 rfl C0 (by decide)) (ex_call D__law_cell C0 (by decide) rfl (ea_cons (ex_var 0) (ea_cons (ex_int) ea_nil))) (ex_int)) ea_nil)) (ex_int)))) (es_cons (es_set sc__law_drawn.nd rfl (Or.inl rfl) (ex_call D__law_cell C0 (by decide) rfl (ea_cons (ex_var 0) (ea_cons (ex_int) ea_nil)))) (es_cons (es_set sc__law_drawn.nd rfl (Or.inl rfl) (ex_bin (bin_op h5 rfl C0 (by decide)) (ex_callTy bl_int rfl G.f_int (by kernel_rfl) (ea_cons (ex_bin (bin_op h5 rfl C0 (by decide)) (ex_var 3) (ex_int)) ea_nil)) (ex_int))) (es_cons (es_if (EW.et (ew_or (et_cmp (bin_cmp h5 rfl C0 (by decide)) (ex_var 4) (ex_int) (by first | rfl | with_unfolding_all rfl)) (ew_or1 (et_cmp (bin_cmp h5 rfl C0 (by decide)) (ex_var 4) (ex_int) (by first | rfl | with_unfolding_all rfl))))) (es_one (es_set sc__law_drawn.nd rfl (Or.inl rfl) (ex_int))) (es_nil)) (es_cons (es_if (et_cmp (bin_cmp h5 rfl C0 (by decide)) (ex_var 4) (ex_int) (by first | rfl | with_unfolding_all rfl)) (es_one (es_set sc__law_drawn.nd rfl (Or.inl rfl) (ex_int))) (es_nil)) (es_cons (es_if (EW.et (ew_or (et_cmp (bin_cmp h5 rfl C0 (by decide)) (ex_var 4) (ex_int) (by first | rfl | with_unfolding_all rfl)) (ew_or1 (et_cmp (bin_cmp h5 rfl C0 (by decide)) (ex_var 4) (ex_int) (by first | rfl | with_unfolding_all rfl))))) (es_one (es_set sc__law_drawn.nd rfl (Or.inl rfl) (ex_int))) (es_nil)) (es_cons (es_if (et_cmp (bin_cmp h5 rfl C0 (by decide)) (ex_var 4) (ex_int) (by first | rfl | with_unfolding_all rfl)) (es_one (es_set sc__law_drawn.nd rfl (Or.inl rfl) (ex_int))) (es_nil)) (es_cons (es_set sc__law_drawn.nd rfl (Or.inl rfl) (ex_call D__law_number C0 (by decide) rfl (ea_cons (ex_var 0) (ea_cons (ex_int) (ea_cons (ex_var 1) ea_nil))))) (es_cons (es_set sc__law_drawn.nd rfl (Or.inl rfl) (ex_int)) (es_cons (es_if (et_cmp (bin_cmp h5 rfl C0 (by decide)) (ex_bin (bin_op h5 rfl C0 (by decide)) (ex_callTy bl_int rfl G.f_int (by kernel_rfl) (ea_cons (ex_call D__law_cell C0 (by decide) rfl (ea_cons (ex_var 0) (ea_cons (ex_int) ea_nil))) ea_nil)) (ex_int)) (ex_int) (by first | rfl | with_unfolding_all rfl)) (es_one (es_set sc__law_drawn.nd rfl (Or.inl rfl) (ex_call D__law_number C0 (by decide) rfl (ea_cons (ex_var 0) (ea_cons (ex_int) (ea_cons (ex_var 2) ea_nil)))))) (es_nil)) (es_cons (es_if (et_cmp (bin_cmp h5 rfl C0 (by decide)) (ex_bin (bin_op h5 rfl C0 (by decide)) (ex_callTy bl_int rfl G.f_int (by kernel_rfl) (ea_cons (ex_var 3) ea_nil)) (ex_int)) (ex_int) (by first | rfl | with_unfolding_all rfl)) (es_one (es_set sc__law_drawn.nd rfl (Or.inl rfl) (ex_un (un_negD h5 rfl C0 (by decide)) (ex_var 5)))) (es_nil)) (es_cons (es_if (et_cmp (bin_cmp h5 rfl C0 (by decide)) (ex_bin (bin_op h5 rfl C0 (by decide)) (ex_callTy bl_int rfl G.f_int (by kernel_rfl) (ea_cons (ex_bin (bin_op h5 rfl C0 (by decide)) (ex_var 3) (ex_int)) ea_nil)) (ex_int)) (ex_int) (by first | rfl | with_unfolding_all rfl)) (es_one (es_set sc__law_drawn.nd rfl (Or.inl rfl) (ex_int))) (es_nil)) (es_one (es_ret (ex_call D__law_low C0 (by decide) rfl (ea_cons (ex_var 5) (ea_cons (ex_var 6) ea_nil)))))))))))))))))
noncomputable def lb__law_figures_0 : MS := mIfS (mB (mBin (inD true) (mVar 1) (mC (.str "0123456789")))) (mRet (mUn (negD T5) (mC (.int 1)))) (mNext)
noncomputable def b__law_figures : MS := mSeq (mIfS (mOr (mB (mBin (cmpD T5 .Eq) (mVar 0) (mC (.str "")))) (mOr (mB (mBin (cmpD T5 .Gt) (mCall lenD [mVar 0]) (mC (.int 40)))) (mAnd (mB (mBin (cmpD T5 .Gt) (mCall lenD [mVar 0]) (mC (.int 1)))) (mB (mBin (cmpD T5 .Eq) (mBin ixD (mVar 0) (mC (.int 0))) (mC (.str "0"))))))) (mRet (mUn (negD T5) (mC (.int 1)))) (mNext)) (mSeq (mFor (iVal (mVar 0)) (gNm 1) lb__law_figures_0) (mRet (mCall intXD [mVar 0])))
noncomputable def m__law_figures : Fn := mDef 2 b__law_figures
theorem sc__law_figures : FnScope ["_law_word", "_law_sign"] ["_law_word"] (defScope st__law_figures) := ⟨rfl, rfl, rfl, by decide +kernel, rfl, by decide +kernel, by decide +kernel⟩
theorem ok__law_figures {f : Addr} {fd : FuncData} {dvs : List V} {kws : List (Str × V)} (G : Gn K mg) (h5 : T5.Ok P w K mg base 18) (hT : T5.Ok P w K mg base 18) (F : FunD K "_law_figures" "_law_figures" (defArgs st__law_figures) (defBody st__law_figures) (defScope st__law_figures) dvs kws f fd) : FnOk P w K mg base (L2.CX P w) 22 f fd ["_law_word"] (spM ⟨K, mg, tn, none⟩ 1 m__law_figures) :=
  fn_mk (fl := ⟨tn, none⟩) (st := st__law_figures) (N := ["_law_word", "_law_sign"]) (ps := ["_law_word"]) (qual := "_law_figures") (k := 21) (body := b__law_figures) F sc__law_figures rfl fun cdv A outer s H E C0 Z0 => es_cons (es_if (EW.et (ew_or (et_cmp (bin_cmp h5 rfl C0 (by decide)) (ex_var 0) (ex_str) (by first | rfl | with_unfolding_all rfl)) (ew_or (et_cmp (bin_cmp h5 rfl C0 (by decide)) (ex_callB bl_len rfl G.f_len (by kernel_rfl) (ea_cons (ex_var 0) ea_nil)) (ex_int) (by first | rfl | with_unfolding_all rfl)) (ew_or1 (EW.et (ew_and (et_cmp (bin_cmp h5 rfl C0 (by decide)) (ex_callB bl_len rfl G.f_len (by kernel_rfl) (ea_cons (ex_var 0) ea_nil)) (ex_int) (by first | rfl | with_unfolding_all rfl)) (ew_and1 (et_cmp (bin_cmp h5 rfl C0 (by decide)) (ex_ix (ex_var 0) (ex_int)) (ex_str) (by first | rfl | with_unfolding_all rfl))))))))) (es_one (es_ret (ex_un (un_negD h5 rfl C0 (by decide)) (ex_int)))) (es_nil)) (es_cons (es_for C0.po C0.calm (ei_val (ex_var 0)) (eg_name sc__law_figures.nd rfl (Or.inl rfl)) (plain_nm 1) (es_one (es_if (et_cmp bin_notin (ex_var 1) (ex_str) (by first | rfl | with_unfolding_all rfl)) (es_one (es_ret (ex_un (un_negD h5 rfl C0 (by decide)) (ex_int)))) (es_nil)))) (es_one (es_ret (ex_callTy bl_intX rfl G.f_int (by kernel_rfl) (ea_cons (ex_var 0) ea_nil)))))
noncomputable def b__law_integer : MS := mRet (mAndV (mCall (isiD T5) [mVar 0, mC (.ty "int")]) (mAndV (mUn notD (mCall (isiD T5) [mVar 0, mC (.ty "bool")])) (mBin (cmpD T5 .Eq) (mVar 0) (mVar 1))))
noncomputable def m__law_integer : Fn := mDef 2 b__law_integer
theorem sc__law_integer : FnScope ["_law_told", "_law_due"] ["_law_told", "_law_due"] (defScope st__law_integer) := ⟨rfl, rfl, rfl, by decide +kernel, rfl, by decide +kernel, by decide +kernel⟩
theorem ok__law_integer {f : Addr} {fd : FuncData} {dvs : List V} {kws : List (Str × V)} (G : Gn K mg) (h5 : T5.Ok P w K mg base 18) (hT : T5.Ok P w K mg base 18) (F : FunD K "_law_integer" "_law_integer" (defArgs st__law_integer) (defBody st__law_integer) (defScope st__law_integer) dvs kws f fd) : FnOk P w K mg base (L2.CX P w) 22 f fd ["_law_told", "_law_due"] (spM ⟨K, mg, tn, none⟩ 2 m__law_integer) :=
  fn_mk (fl := ⟨tn, none⟩) (st := st__law_integer) (N := ["_law_told", "_law_due"]) (ps := ["_law_told", "_law_due"]) (qual := "_law_integer") (k := 21) (body := b__law_integer) F sc__law_integer rfl fun cdv A outer s H E C0 Z0 => es_one (es_ret (ex_and (ex_callB (bl_isi h5 rfl) rfl G.f_isinstance (by kernel_rfl) (ea_cons (ex_var 0) (ea_cons (ex_ty rfl G.f_int (by kernel_rfl)) ea_nil))) (ex_and (ex_notv (ex_callB (bl_isi h5 rfl) rfl G.f_isinstance (by kernel_rfl) (ea_cons (ex_var 0) (ea_cons (ex_ty rfl G.f_bool (by kernel_rfl)) ea_nil)))) (ex_one (ex_cmp (bin_cmp h5 rfl C0 (by decide)) (ex_var 0) (ex_var 1) (by first | rfl | with_unfolding_all rfl))))))
noncomputable def b__law_is : MS := mSeq (mIfS (mNot (mTru (mCall (isiD T5) [mVar 0, mC (.glob n_Frac)]))) (mRet (mC (.bl false))) (mNext)) (mRet (mAndV (mCall m__law_integer [mAttr T5 n_num (mVar 0), mBin ixD (mVar 1) (mC (.int 0))]) (mCall m__law_integer [mAttr T5 n_den (mVar 0), mBin ixD (mVar 1) (mC (.int 1))])))
noncomputable def m__law_is : Fn := mDef 2 b__law_is
theorem sc__law_is : FnScope ["_law_told", "_law_due"] ["_law_told", "_law_due"] (defScope st__law_is) := ⟨rfl, rfl, rfl, by decide +kernel, rfl, by decide +kernel, by decide +kernel⟩
theorem ok__law_is {f : Addr} {fd : FuncData} {dvs : List V} {kws : List (Str × V)} (G : Gn K mg) (h5 : T5.Ok P w K mg base 18) (hT : T5.Ok P w K mg base 18) (D__law_integer : DefOk P w K mg base tn 22 "_law_integer" 2 m__law_integer) (F : FunD K "_law_is" "_law_is" (defArgs st__law_is) (defBody st__law_is) (defScope st__law_is) dvs kws f fd) : FnOk P w K mg base (L2.CX P w) 23 f fd ["_law_told", "_law_due"] (spM ⟨K, mg, tn, none⟩ 2 m__law_is) :=
  fn_mk (fl := ⟨tn, none⟩) (st := st__law_is) (N := ["_law_told", "_law_due"]) (ps := ["_law_told", "_law_due"]) (qual := "_law_is") (k := 22) (body := b__law_is) F sc__law_is rfl fun cdv A outer s H E C0 Z0 => es_cons (es_if (et_not (et_val (ex_callB (bl_isi h5 rfl) rfl G.f_isinstance (by kernel_rfl) (ea_cons (ex_var 0) (ea_cons (ex_glob n_Frac rfl rfl G.g_Frac) ea_nil))))) (es_one (es_ret (ex_bl))) (es_nil)) (es_one (es_ret (ex_and (ex_call D__law_integer C0 (by decide) rfl (ea_cons (ex_attr n_num rfl h5 rfl C0 (by decide) (ex_var 0)) (ea_cons (ex_ix (ex_var 1) (ex_int)) ea_nil))) (ex_one (ex_call D__law_integer C0 (by decide) rfl (ea_cons (ex_attr n_den rfl h5 rfl C0 (by decide) (ex_var 0)) (ea_cons (ex_ix (ex_var 1) (ex_int)) ea_nil)))))))
noncomputable def jb__law_reading_0 : MS := mIfS (mB (mBin (cmpD T5 .Eq) (mFz (mSl (mVar 0) (mPn) (mPs (mC (.int 1))))) (mC (.str "-")))) (mSeq (mAsg 1 (mUn (negD T5) (mC (.int 1)))) (mAsg 0 (mFz (mSl (mVar 0) (mPs (mC (.int 1))) (mPn))))) (mNext)
noncomputable def b__law_reading : MS := mSeq (mAsg 1 (mC (.int 1))) (mSeq (jb__law_reading_0) (mSeq (mAsg 2 (mFz (mBm "str" splD (mVar 0) [mC (.str "/")]))) (mSeq (mIfS (mB (mBin (cmpD T5 .Gt) (mCall lenD [mVar 2]) (mC (.int 2)))) (mRet (mC .non)) (mNext)) (mSeq (mAsg 3 (mCall m__law_figures [mBin ixD (mVar 2) (mC (.int 0))])) (mSeq (mAsg 4 (mC (.int 1))) (mSeq (mIfS (mB (mBin (cmpD T5 .Eq) (mCall lenD [mVar 2]) (mC (.int 2)))) (mSeq (mAsg 4 (mCall m__law_figures [mBin ixD (mVar 2) (mC (.int 1))])) (mIfS (mB (mBin (cmpD T5 .Lt) (mVar 4) (mC (.int 2)))) (mRet (mC .non)) (mNext))) (mNext)) (mSeq (mIfS (mOr (mB (mBin (cmpD T5 .Lt) (mVar 3) (mC (.int 0)))) (mAnd (mB (mBin (cmpD T5 .Eq) (mVar 3) (mC (.int 0)))) (mOr (mB (mBin (cmpD T5 .Lt) (mVar 1) (mC (.int 0)))) (mB (mBin (cmpD T5 .NotEq) (mVar 4) (mC (.int 1))))))) (mRet (mC .non)) (mNext)) (mSeq (mIfS (mB (mBin (cmpD T5 .NotEq) (mCall m__law_gcd [mVar 3, mVar 4]) (mC (.int 1)))) (mRet (mC .non)) (mNext)) (mRet (mTup [mBin (opD T5 .Mult) (mVar 1) (mVar 3), mVar 4]))))))))))
noncomputable def m__law_reading : Fn := mDef 5 b__law_reading
theorem sc__law_reading : FnScope ["_law_text_here", "_law_sign", "_law_words", "_law_num", "_law_den"] ["_law_text_here"] (defScope st__law_reading) := ⟨rfl, rfl, rfl, by decide +kernel, rfl, by decide +kernel, by decide +kernel⟩
theorem ok__law_reading {f : Addr} {fd : FuncData} {dvs : List V} {kws : List (Str × V)} (G : Gn K mg) (h5 : T5.Ok P w K mg base 18) (hT : T5.Ok P w K mg base 18) (D__law_figures : DefOk P w K mg base tn 22 "_law_figures" 1 m__law_figures) (D__law_gcd : DefOk P w K mg base tn 22 "_law_gcd" 2 m__law_gcd) (F : FunD K "_law_reading" "_law_reading" (defArgs st__law_reading) (defBody st__law_reading) (defScope st__law_reading) dvs kws f fd) : FnOk P w K mg base (L2.CX P w) 23 f fd ["_law_text_here"] (spM ⟨K, mg, tn, none⟩ 1 m__law_reading) :=
  fn_mk (fl := ⟨tn, none⟩) (st := st__law_reading) (N := ["_law_text_here", "_law_sign", "_law_words", "_law_num", "_law_den"]) (ps := ["_law_text_here"]) (qual := "_law_reading") (k := 22) (body := b__law_reading) F sc__law_reading rfl fun cdv A outer s H E C0 Z0 => es_cons (es_set sc__law_reading.nd rfl (Or.inl rfl) (ex_int)) (es_cons (es_if (et_cmp (bin_cmp h5 rfl C0 (by decide)) (ex_fz (ex_slice (ex_var 0) (eo_none) (eo_some (ex_int)))) (ex_str) (by first | rfl | with_unfolding_all rfl)) (es_cons (es_set sc__law_reading.nd rfl (Or.inl rfl) (ex_un (un_negD h5 rfl C0 (by decide)) (ex_int))) (es_one (es_set sc__law_reading.nd rfl (Or.inl rfl) (ex_fz (ex_slice (ex_var 0) (eo_some (ex_int)) (eo_none)))))) (es_nil)) (es_cons (es_set sc__law_reading.nd rfl (Or.inl rfl) (ex_fz (ex_bm PySem.F.plainAttrs_str PySem.F.slot_str_split PySem.F.type_str_split bl_spl (ex_var 0) (ea_cons (ex_str) ea_nil)))) (es_cons (es_if (et_cmp (bin_cmp h5 rfl C0 (by decide)) (ex_callB bl_len rfl G.f_len (by kernel_rfl) (ea_cons (ex_var 2) ea_nil)) (ex_int) (by first | rfl | with_unfolding_all rfl)) (es_one (es_ret (ex_non))) (es_nil)) (es_cons (es_set sc__law_reading.nd rfl (Or.inl rfl) (ex_call D__law_figures C0 (by decide) rfl (ea_cons (ex_ix (ex_var 2) (ex_int)) ea_nil))) (es_cons (es_set sc__law_reading.nd rfl (Or.inl rfl) (ex_int)) (es_cons (es_if (et_cmp (bin_cmp h5 rfl C0 (by decide)) (ex_callB bl_len rfl G.f_len (by kernel_rfl) (ea_cons (ex_var 2) ea_nil)) (ex_int) (by first | rfl | with_unfolding_all rfl)) (es_cons (es_set sc__law_reading.nd rfl (Or.inl rfl) (ex_call D__law_figures C0 (by decide) rfl (ea_cons (ex_ix (ex_var 2) (ex_int)) ea_nil))) (es_one (es_if (et_cmp (bin_cmp h5 rfl C0 (by decide)) (ex_var 4) (ex_int) (by first | rfl | with_unfolding_all rfl)) (es_one (es_ret (ex_non))) (es_nil)))) (es_nil)) (es_cons (es_if (EW.et (ew_or (et_cmp (bin_cmp h5 rfl C0 (by decide)) (ex_var 3) (ex_int) (by first | rfl | with_unfolding_all rfl)) (ew_or1 (EW.et (ew_and (et_cmp (bin_cmp h5 rfl C0 (by decide)) (ex_var 3) (ex_int) (by first | rfl | with_unfolding_all rfl)) (ew_and1 (EW.et (ew_or (et_cmp (bin_cmp h5 rfl C0 (by decide)) (ex_var 1) (ex_int) (by first | rfl | with_unfolding_all rfl)) (ew_or1 (et_cmp (bin_cmp h5 rfl C0 (by decide)) (ex_var 4) (ex_int) (by first | rfl | with_unfolding_all rfl))))))))))) (es_one (es_ret (ex_non))) (es_nil)) (es_cons (es_if (et_cmp (bin_cmp h5 rfl C0 (by decide)) (ex_call D__law_gcd C0 (by decide) rfl (ea_cons (ex_var 3) (ea_cons (ex_var 4) ea_nil))) (ex_int) (by first | rfl | with_unfolding_all rfl)) (es_one (es_ret (ex_non))) (es_nil)) (es_one (es_ret (ex_tup (ea_cons (ex_bin (bin_op h5 rfl C0 (by decide)) (ex_var 1) (ex_var 3)) (ea_cons (ex_var 4) ea_nil)))))))))))))
noncomputable def b__law_short : MS := mSeq (mAsg 1 (mFz (mLst [mC (.str ""), mC (.str "-"), mC (.str "/"), mC (.str "-0"), mC (.str "0/1"), mC (.str "00"), mC (.str "1/0"), mC (.str "0/0"), mC (.str "-/2"), mC (.str "3/"), mC (.str "/3"), mC (.str "1/2/3"), mC (.str "0"), mC (.str "-1/2")]))) (mRet (mBin ixD (mVar 1) (mBin (opD T5 .Mod) (mCall intD [mVar 0]) (mC (.int 14)))))
noncomputable def m__law_short : Fn := mDef 2 b__law_short
theorem sc__law_short : FnScope ["_law_k", "_law_words"] ["_law_k"] (defScope st__law_short) := ⟨rfl, rfl, rfl, by decide +kernel, rfl, by decide +kernel, by decide +kernel⟩
theorem ok__law_short {f : Addr} {fd : FuncData} {dvs : List V} {kws : List (Str × V)} (G : Gn K mg) (h5 : T5.Ok P w K mg base 18) (hT : T5.Ok P w K mg base 18) (F : FunD K "_law_short" "_law_short" (defArgs st__law_short) (defBody st__law_short) (defScope st__law_short) dvs kws f fd) : FnOk P w K mg base (L2.CX P w) 22 f fd ["_law_k"] (spM ⟨K, mg, tn, none⟩ 1 m__law_short) :=
  fn_mk (fl := ⟨tn, none⟩) (st := st__law_short) (N := ["_law_k", "_law_words"]) (ps := ["_law_k"]) (qual := "_law_short") (k := 21) (body := b__law_short) F sc__law_short rfl fun cdv A outer s H E C0 Z0 => es_cons (es_set sc__law_short.nd rfl (Or.inl rfl) (ex_fz (ex_lst (ea_cons (ex_str) (ea_cons (ex_str) (ea_cons (ex_str) (ea_cons (ex_str) (ea_cons (ex_str) (ea_cons (ex_str) (ea_cons (ex_str) (ea_cons (ex_str) (ea_cons (ex_str) (ea_cons (ex_str) (ea_cons (ex_str) (ea_cons (ex_str) (ea_cons (ex_str) (ea_cons (ex_str) ea_nil))))))))))))))))) (es_one (es_ret (ex_ix (ex_var 1) (ex_bin (bin_op h5 rfl C0 (by decide)) (ex_callTy bl_int rfl G.f_int (by kernel_rfl) (ea_cons (ex_var 0) ea_nil)) (ex_int)))))
noncomputable def jb__law_text_0 : MS := mIfS (mB (mBin (cmpD T5 .NotEq) (mBin ixD (mVar 0) (mC (.int 1))) (mC (.int 1)))) (mAsg 1 (mBin (opD T5 .Add) (mBin (opD T5 .Add) (mVar 1) (mC (.str "/"))) (mCall (strD T5) [mBin ixD (mVar 0) (mC (.int 1))]))) (mNext)
noncomputable def b__law_text : MS := mSeq (mAsg 1 (mCall (strD T5) [mBin ixD (mVar 0) (mC (.int 0))])) (mSeq (jb__law_text_0) (mRet (mVar 1)))
noncomputable def m__law_text : Fn := mDef 2 b__law_text
theorem sc__law_text : FnScope ["_law_value", "_law_text_here"] ["_law_value"] (defScope st__law_text) := ⟨rfl, rfl, rfl, by decide +kernel, rfl, by decide +kernel, by decide +kernel⟩
theorem ok__law_text {f : Addr} {fd : FuncData} {dvs : List V} {kws : List (Str × V)} (G : Gn K mg) (h5 : T5.Ok P w K mg base 18) (hT : T5.Ok P w K mg base 18) (F : FunD K "_law_text" "_law_text" (defArgs st__law_text) (defBody st__law_text) (defScope st__law_text) dvs kws f fd) : FnOk P w K mg base (L2.CX P w) 22 f fd ["_law_value"] (spM ⟨K, mg, tn, none⟩ 1 m__law_text) :=
  fn_mk (fl := ⟨tn, none⟩) (st := st__law_text) (N := ["_law_value", "_law_text_here"]) (ps := ["_law_value"]) (qual := "_law_text") (k := 21) (body := b__law_text) F sc__law_text rfl fun cdv A outer s H E C0 Z0 => es_cons (es_set sc__law_text.nd rfl (Or.inl rfl) (ex_callTy (bl_str h5 rfl C0 (by decide)) rfl G.f_str (by kernel_rfl) (ea_cons (ex_ix (ex_var 0) (ex_int)) ea_nil))) (es_cons (es_if (et_cmp (bin_cmp h5 rfl C0 (by decide)) (ex_ix (ex_var 0) (ex_int)) (ex_int) (by first | rfl | with_unfolding_all rfl)) (es_one (es_set sc__law_text.nd rfl (Or.inl rfl) (ex_bin (bin_op h5 rfl C0 (by decide)) (ex_bin (bin_op h5 rfl C0 (by decide)) (ex_var 1) (ex_str)) (ex_callTy (bl_str h5 rfl C0 (by decide)) rfl G.f_str (by kernel_rfl) (ea_cons (ex_ix (ex_var 0) (ex_int)) ea_nil))))) (es_nil)) (es_one (es_ret (ex_var 1))))
noncomputable def b__law_spoilt : MS := mSeq (mAsg 4 (mCall m__law_text [mVar 0])) (mSeq (mAsg 2 (mBin (opD T5 .Mod) (mCall intD [mVar 2]) (mBin (opD T5 .Add) (mCall lenD [mVar 4]) (mC (.int 1))))) (mSeq (mAsg 5 (mFz (mSl (mVar 4) (mPn) (mPs (mVar 2))))) (mSeq (mAsg 6 (mFz (mSl (mVar 4) (mPs (mVar 2)) (mPn)))) (mSeq (mAsg 7 (mCall (strD T5) [mBin ixD (mVar 0) (mC (.int 0))])) (mSeq (mAsg 8 (mCall (strD T5) [mCall (absD T5) [mBin ixD (mVar 0) (mC (.int 0))]])) (mSeq (mAsg 9 (mFz (mSl (mVar 7) (mPn) (mPs (mBin (opD T5 .Sub) (mCall lenD [mVar 7]) (mCall lenD [mVar 8])))))) (mSeq (mAsg 10 (mCall (strD T5) [mBin ixD (mVar 0) (mC (.int 1))])) (mSeq (mIfS (mB (mBin (cmpD T5 .Eq) (mVar 1) (mC (.int 0)))) (mRet (mBin (opD T5 .Add) (mBin (opD T5 .Add) (mVar 5) (mVar 3)) (mVar 6))) (mNext)) (mSeq (mIfS (mB (mBin (cmpD T5 .Eq) (mVar 1) (mC (.int 1)))) (mRet (mFz (mBin (opD T5 .Add) (mVar 5) (mFz (mSl (mVar 6) (mPs (mC (.int 1))) (mPn)))))) (mNext)) (mSeq (mIfS (mB (mBin (cmpD T5 .Eq) (mVar 1) (mC (.int 2)))) (mRet (mFz (mBin (opD T5 .Add) (mFz (mBin (opD T5 .Add) (mVar 5) (mFz (mSl (mVar 6) (mPn) (mPs (mC (.int 1))))))) (mVar 6)))) (mNext)) (mSeq (mIfS (mB (mBin (cmpD T5 .Eq) (mVar 1) (mC (.int 3)))) (mRet (mFz (mBin (opD T5 .Add) (mBin (opD T5 .Add) (mVar 5) (mVar 3)) (mFz (mSl (mVar 6) (mPs (mC (.int 1))) (mPn)))))) (mNext)) (mSeq (mIfS (mB (mBin (cmpD T5 .Eq) (mVar 1) (mC (.int 4)))) (mRet (mBin (opD T5 .Add) (mBin (opD T5 .Add) (mCall (strD T5) [mBin (opD T5 .Mult) (mBin ixD (mVar 0) (mC (.int 0))) (mBin (opD T5 .Add) (mC (.int 2)) (mVar 2))]) (mC (.str "/"))) (mCall (strD T5) [mBin (opD T5 .Mult) (mBin ixD (mVar 0) (mC (.int 1))) (mBin (opD T5 .Add) (mC (.int 2)) (mVar 2))]))) (mNext)) (mSeq (mAsg 11 (mFz (mSl (mVar 4) (mPs (mCall lenD [mVar 7])) (mPn)))) (mSeq (mAsg 12 (mLst [mBin (opD T5 .Add) (mVar 4) (mC (.str "/1")), mBin (opD T5 .Add) (mC (.str "-")) (mVar 4), mBin (opD T5 .Add) (mC (.str "+")) (mVar 4), mBin (opD T5 .Add) (mBin (opD T5 .Add) (mVar 7) (mC (.str "/-"))) (mVar 10)])) (mSeq (mAsg 12 (mBin (opD T5 .Add) (mVar 12) (mFz (mLst [mBin (opD T5 .Add) (mBin (opD T5 .Add) (mVar 7) (mC (.str "/0"))) (mVar 10), mBin (opD T5 .Add) (mBin (opD T5 .Add) (mBin (opD T5 .Add) (mVar 9) (mC (.str "0"))) (mVar 8)) (mVar 11)])))) (mSeq (mAsg 12 (mBin (opD T5 .Add) (mVar 12) (mFz (mLst [mBin (opD T5 .Add) (mC (.str " ")) (mVar 4), mBin (opD T5 .Add) (mVar 4) (mC (.str " ")), mBin (opD T5 .Add) (mVar 4) (mC (.str "\n"))])))) (mSeq (mAsg 12 (mBin (opD T5 .Add) (mVar 12) (mFz (mLst [mBin (opD T5 .Add) (mBin (opD T5 .Add) (mVar 7) (mC (.str " /"))) (mVar 10), mBin (opD T5 .Add) (mBin (opD T5 .Add) (mVar 7) (mC (.str "/ "))) (mVar 10)])))) (mSeq (mAsg 12 (mBin (opD T5 .Add) (mVar 12) (mFz (mLst [mBin (opD T5 .Add) (mBin (opD T5 .Add) (mBin (opD T5 .Add) (mVar 9) (mC (.str "1"))) (mBin mulS (mC (.str "0")) (mC (.int 40)))) (mVar 11), mBin (opD T5 .Add) (mBin (opD T5 .Add) (mVar 9) (mC (.str "1"))) (mBin mulS (mC (.str "0")) (mC (.int 39)))])))) (mSeq (mAsg 12 (mBin (opD T5 .Add) (mVar 12) (mFz (mLst [mBin (opD T5 .Add) (mVar 4) (mC (.str "0")), mVar 4])))) (mSeq (mDrop (mBm "list" appD (mVar 12) [mCall m__law_text [mTup [mUn (negD T5) (mBin ixD (mVar 0) (mC (.int 0))), mBin ixD (mVar 0) (mC (.int 1))]]])) (mSeq (mFrzV 12) (mSeq (mIfS (mB (mBin (cmpD T5 .Lt) (mVar 1) (mC (.int 21)))) (mRet (mBin ixD (mVar 12) (mBin (opD T5 .Sub) (mVar 1) (mC (.int 5))))) (mNext)) (mRet (mCall m__law_short [mVar 2]))))))))))))))))))))))))
noncomputable def m__law_spoilt : Fn := mDef 13 b__law_spoilt
theorem sc__law_spoilt : FnScope ["_law_value", "_law_kind", "_law_place", "_law_char", "_law_text_here", "_law_head", "_law_tail", "_law_top", "_law_digits", "_law_minus", "_law_den", "_law_rest", "_law_words"] ["_law_value", "_law_kind", "_law_place", "_law_char"] (defScope st__law_spoilt) := ⟨rfl, rfl, rfl, by decide +kernel, rfl, by decide +kernel, by decide +kernel⟩
theorem ok__law_spoilt {f : Addr} {fd : FuncData} {dvs : List V} {kws : List (Str × V)} (G : Gn K mg) (h5 : T5.Ok P w K mg base 18) (hT : T5.Ok P w K mg base 18) (D__law_text : DefOk P w K mg base tn 22 "_law_text" 1 m__law_text) (D__law_short : DefOk P w K mg base tn 22 "_law_short" 1 m__law_short) (F : FunD K "_law_spoilt" "_law_spoilt" (defArgs st__law_spoilt) (defBody st__law_spoilt) (defScope st__law_spoilt) dvs kws f fd) : FnOk P w K mg base (L2.CX P w) 23 f fd ["_law_value", "_law_kind", "_law_place", "_law_char"] (spM ⟨K, mg, tn, none⟩ 4 m__law_spoilt) :=
  fn_mk (fl := ⟨tn, none⟩) (st := st__law_spoilt) (N := ["_law_value", "_law_kind", "_law_place", "_law_char", "_law_text_here", "_law_head", "_law_tail", "_law_top", "_law_digits", "_law_minus", "_law_den", "_law_rest", "_law_words"]) (ps := ["_law_value", "_law_kind", "_law_place", "_law_char"]) (qual := "_law_spoilt") (k := 22) (body := b__law_spoilt) F sc__law_spoilt rfl fun cdv A outer s H E C0 Z0 => es_cons (es_set sc__law_spoilt.nd rfl (Or.inl rfl) (ex_call D__law_text C0 (by decide) rfl (ea_cons (ex_var 0) ea_nil))) (es_cons (es_set sc__law_spoilt.nd rfl (Or.inl rfl) (ex_bin (bin_op h5 rfl C0 (by decide)) (ex_callTy bl_int rfl G.f_int (by kernel_rfl) (ea_cons (ex_var 2) ea_nil)) (ex_bin (bin_op h5 rfl C0 (by decide)) (ex_callB bl_len rfl G.f_len (by kernel_rfl) (ea_cons (ex_var 4) ea_nil)) (ex_int)))) (es_cons (es_set sc__law_spoilt.nd rfl (Or.inl rfl) (ex_fz (ex_slice (ex_var 4) (eo_none) (eo_some (ex_var 2))))) (es_cons (es_set sc__law_spoilt.nd rfl (Or.inl rfl) (ex_fz (ex_slice (ex_var 4) (eo_some (ex_var 2)) (eo_none)))) (es_cons (es_set sc__law_spoilt.nd rfl (Or.inl rfl) (ex_callTy (bl_str h5 rfl C0 (by decide)) rfl G.f_str (by kernel_rfl) (ea_cons (ex_ix (ex_var 0) (ex_int)) ea_nil))) (es_cons (es_set sc__law_spoilt.nd rfl (Or.inl rfl) (ex_callTy (bl_str h5 rfl C0 (by decide)) rfl G.f_str (by kernel_rfl) (ea_cons (ex_callB (bl_abs h5 rfl C0 (by decide)) rfl G.f_abs (by kernel_rfl) (ea_cons (ex_ix (ex_var 0) (ex_int)) ea_nil)) ea_nil))) (es_cons (es_set sc__law_spoilt.nd rfl (Or.inl rfl) (ex_fz (ex_slice (ex_var 7) (eo_none) (eo_some (ex_bin (bin_op h5 rfl C0 (by decide)) (ex_callB bl_len rfl G.f_len (by kernel_rfl) (ea_cons (ex_var 7) ea_nil)) (ex_callB bl_len rfl G.f_len (by kernel_rfl) (ea_cons (ex_var 8) ea_nil))))))) (es_cons (es_set sc__law_spoilt.nd rfl (Or.inl rfl) (ex_callTy (bl_str h5 rfl C0 (by decide)) rfl G.f_str (by kernel_rfl) (ea_cons (ex_ix (ex_var 0) (ex_int)) ea_nil))) (es_cons (es_if (et_cmp (bin_cmp h5 rfl C0 (by decide)) (ex_var 1) (ex_int) (by first | rfl | with_unfolding_all rfl)) (es_one (es_ret (ex_bin (bin_op h5 rfl C0 (by decide)) (ex_bin (bin_op h5 rfl C0 (by decide)) (ex_var 5) (ex_var 3)) (ex_var 6)))) (es_nil)) (es_cons (es_if (et_cmp (bin_cmp h5 rfl C0 (by decide)) (ex_var 1) (ex_int) (by first | rfl | with_unfolding_all rfl)) (es_one (es_ret (ex_fz (ex_bin (bin_op h5 rfl C0 (by decide)) (ex_var 5) (ex_fz (ex_slice (ex_var 6) (eo_some (ex_int)) (eo_none))))))) (es_nil)) (es_cons (es_if (et_cmp (bin_cmp h5 rfl C0 (by decide)) (ex_var 1) (ex_int) (by first | rfl | with_unfolding_all rfl)) (es_one (es_ret (ex_fz (ex_bin (bin_op h5 rfl C0 (by decide)) (ex_fz (ex_bin (bin_op h5 rfl C0 (by decide)) (ex_var 5) (ex_fz (ex_slice (ex_var 6) (eo_none) (eo_some (ex_int)))))) (ex_var 6))))) (es_nil)) (es_cons (es_if (et_cmp (bin_cmp h5 rfl C0 (by decide)) (ex_var 1) (ex_int) (by first | rfl | with_unfolding_all rfl)) (es_one (es_ret (ex_fz (ex_bin (bin_op h5 rfl C0 (by decide)) (ex_bin (bin_op h5 rfl C0 (by decide)) (ex_var 5) (ex_var 3)) (ex_fz (ex_slice (ex_var 6) (eo_some (ex_int)) (eo_none))))))) (es_nil)) (es_cons (es_if (et_cmp (bin_cmp h5 rfl C0 (by decide)) (ex_var 1) (ex_int) (by first | rfl | with_unfolding_all rfl)) (es_one (es_ret (ex_bin (bin_op h5 rfl C0 (by decide)) (ex_bin (bin_op h5 rfl C0 (by decide)) (ex_callTy (bl_str h5 rfl C0 (by decide)) rfl G.f_str (by kernel_rfl) (ea_cons (ex_bin (bin_op h5 rfl C0 (by decide)) (ex_ix (ex_var 0) (ex_int)) (ex_bin (bin_op h5 rfl C0 (by decide)) (ex_int) (ex_var 2))) ea_nil)) (ex_str)) (ex_callTy (bl_str h5 rfl C0 (by decide)) rfl G.f_str (by kernel_rfl) (ea_cons (ex_bin (bin_op h5 rfl C0 (by decide)) (ex_ix (ex_var 0) (ex_int)) (ex_bin (bin_op h5 rfl C0 (by decide)) (ex_int) (ex_var 2))) ea_nil))))) (es_nil)) (es_cons (es_set sc__law_spoilt.nd rfl (Or.inl rfl) (ex_fz (ex_slice (ex_var 4) (eo_some (ex_callB bl_len rfl G.f_len (by kernel_rfl) (ea_cons (ex_var 7) ea_nil))) (eo_none)))) (es_cons (es_set sc__law_spoilt.nd rfl (Or.inl rfl) (ex_lst (ea_cons (ex_bin (bin_op h5 rfl C0 (by decide)) (ex_var 4) (ex_str)) (ea_cons (ex_bin (bin_op h5 rfl C0 (by decide)) (ex_str) (ex_var 4)) (ea_cons (ex_bin (bin_op h5 rfl C0 (by decide)) (ex_str) (ex_var 4)) (ea_cons (ex_bin (bin_op h5 rfl C0 (by decide)) (ex_bin (bin_op h5 rfl C0 (by decide)) (ex_var 7) (ex_str)) (ex_var 10)) ea_nil)))))) (es_cons (es_set sc__law_spoilt.nd rfl (Or.inl rfl) (ex_bin (bin_op h5 rfl C0 (by decide)) (ex_var 12) (ex_fz (ex_lst (ea_cons (ex_bin (bin_op h5 rfl C0 (by decide)) (ex_bin (bin_op h5 rfl C0 (by decide)) (ex_var 7) (ex_str)) (ex_var 10)) (ea_cons (ex_bin (bin_op h5 rfl C0 (by decide)) (ex_bin (bin_op h5 rfl C0 (by decide)) (ex_bin (bin_op h5 rfl C0 (by decide)) (ex_var 9) (ex_str)) (ex_var 8)) (ex_var 11)) ea_nil)))))) (es_cons (es_set sc__law_spoilt.nd rfl (Or.inl rfl) (ex_bin (bin_op h5 rfl C0 (by decide)) (ex_var 12) (ex_fz (ex_lst (ea_cons (ex_bin (bin_op h5 rfl C0 (by decide)) (ex_str) (ex_var 4)) (ea_cons (ex_bin (bin_op h5 rfl C0 (by decide)) (ex_var 4) (ex_str)) (ea_cons (ex_bin (bin_op h5 rfl C0 (by decide)) (ex_var 4) (ex_str)) ea_nil))))))) (es_cons (es_set sc__law_spoilt.nd rfl (Or.inl rfl) (ex_bin (bin_op h5 rfl C0 (by decide)) (ex_var 12) (ex_fz (ex_lst (ea_cons (ex_bin (bin_op h5 rfl C0 (by decide)) (ex_bin (bin_op h5 rfl C0 (by decide)) (ex_var 7) (ex_str)) (ex_var 10)) (ea_cons (ex_bin (bin_op h5 rfl C0 (by decide)) (ex_bin (bin_op h5 rfl C0 (by decide)) (ex_var 7) (ex_str)) (ex_var 10)) ea_nil)))))) (es_cons (es_set sc__law_spoilt.nd rfl (Or.inl rfl) (ex_bin (bin_op h5 rfl C0 (by decide)) (ex_var 12) (ex_fz (ex_lst (ea_cons (ex_bin (bin_op h5 rfl C0 (by decide)) (ex_bin (bin_op h5 rfl C0 (by decide)) (ex_bin (bin_op h5 rfl C0 (by decide)) (ex_var 9) (ex_str)) (ex_bin bin_mulS (ex_str) (ex_int))) (ex_var 11)) (ea_cons (ex_bin (bin_op h5 rfl C0 (by decide)) (ex_bin (bin_op h5 rfl C0 (by decide)) (ex_var 9) (ex_str)) (ex_bin bin_mulS (ex_str) (ex_int))) ea_nil)))))) (es_cons (es_set sc__law_spoilt.nd rfl (Or.inl rfl) (ex_bin (bin_op h5 rfl C0 (by decide)) (ex_var 12) (ex_fz (ex_lst (ea_cons (ex_bin (bin_op h5 rfl C0 (by decide)) (ex_var 4) (ex_str)) (ea_cons (ex_var 4) ea_nil)))))) (es_cons (es_expr (ex_bm PySem.F.plainAttrs_list PySem.F.slot_list_append PySem.F.type_list_append bl_append (ex_var 12) (ea_cons (ex_call D__law_text C0 (by decide) rfl (ea_cons (ex_tup (ea_cons (ex_un (un_negD h5 rfl C0 (by decide)) (ex_ix (ex_var 0) (ex_int))) (ea_cons (ex_ix (ex_var 0) (ex_int)) ea_nil))) ea_nil)) ea_nil))) (es_fr 12 (es_cons (es_if (et_cmp (bin_cmp h5 rfl C0 (by decide)) (ex_var 1) (ex_int) (by first | rfl | with_unfolding_all rfl)) (es_one (es_ret (ex_ix (ex_var 12) (ex_bin (bin_op h5 rfl C0 (by decide)) (ex_var 1) (ex_int))))) (es_nil)) (es_one (es_ret (ex_call D__law_short C0 (by decide) rfl (ea_cons (ex_var 2) ea_nil))))))))))))))))))))))))))
noncomputable def T6 : CT := T5
noncomputable def b__law_reads : MS := mSeq (mAsg 1 (mCall m__law_reading [mVar 0])) (mSeq (mAsg 2 (mC .non)) (mSeq (mTryAs T5 3 (.c n_BestError) (mAsg 2 (mCall m_F_read [mVar 0])) (mSeq (mIfS (mOr (mNot (mTru (mCall (isiF XF T5) [mVar 3, mC (.glob n_BadNumber)]))) (mTru (mCall (isiF XF T5) [mVar 3, mC (.glob n_DivisionByZero)]))) (mRet (mC (.bl false))) (mNext)) (mSeq (mIfS (mOr (mB (mBin (isnND) (mVar 1) (mC .non))) (mNot (mTru (mCall (isiF XF T5) [mVar 3, mC (.ty "ValueError")])))) (mRet (mC (.bl false))) (mNext)) (mRet (mAndV (mCall (isiD T5) [mAttrX XF n_text (mVar 3), mC (.ty "str")]) (mBin (cmpX T5 .Eq) (mAttrX XF n_text (mVar 3)) (mVar 0))))))) (mSeq (mIfS (mB (mBin (isND) (mVar 1) (mC .non))) (mRet (mC (.bl false))) (mNext)) (mRet (mAndV (mCall m__law_is [mVar 2, mVar 1]) (mBin (cmpD T5 .Eq) (mCall (strD T5) [mVar 2]) (mVar 0)))))))
noncomputable def m__law_reads : Fn := mDef 4 b__law_reads
theorem sc__law_reads : FnScope ["_law_text_here", "_law_due", "_law_told", "e"] ["_law_text_here"] (defScope st__law_reads) := ⟨rfl, rfl, rfl, by decide +kernel, rfl, by decide +kernel, by decide +kernel⟩
theorem ok__law_reads {f : Addr} {fd : FuncData} {dvs : List V} {kws : List (Str × V)} (G : Gn K mg) (h5 : T5.Ok P w K mg base 18) (hT : T6.Ok P w K mg base 23) (D__law_reading : DefOk P w K mg base tn 23 "_law_reading" 1 m__law_reading) (D__law_is : DefOk P w K mg base tn 23 "_law_is" 2 m__law_is) (SM_F_read : SmOk P w K mg base tn 23 "Frac" "read" 1 m_F_read) (hX : XOk K mg tn XF) (F : FunD K "_law_reads" "_law_reads" (defArgs st__law_reads) (defBody st__law_reads) (defScope st__law_reads) dvs kws f fd) : FnOk P w K mg base (L2.CX P w) 27 f fd ["_law_text_here"] (spM ⟨K, mg, tn, none⟩ 1 m__law_reads) :=
  fn_mk (fl := ⟨tn, none⟩) (st := st__law_reads) (N := ["_law_text_here", "_law_due", "_law_told", "e"]) (ps := ["_law_text_here"]) (qual := "_law_reads") (k := 26) (body := b__law_reads) F sc__law_reads rfl fun cdv A outer s H E C0 Z0 => es_cons (es_set sc__law_reads.nd rfl (Or.inl rfl) (ex_call D__law_reading C0 (by decide) rfl (ea_cons (ex_var 0) ea_nil))) (es_cons (es_set sc__law_reads.nd rfl (Or.inl rfl) (ex_non)) (es_cons (es_try_as 3 (.c n_BestError) h5 rfl C0 Z0 sc__law_reads.nd rfl rfl ⟨rfl, by decide, .inl G.g_BestError⟩ (.c n_BestError _ G.g_BestError) (fun W pn xe C1 => es_one (es_set sc__law_reads.nd rfl (Or.inl rfl) (ex_smeth SM_F_read C1 (by decide) rfl rfl (ea_cons (ex_var 0) ea_nil)))) (fun a C oe d pn hz hf => es_cons (es_if (EW.et (ew_or (et_not (et_val (ex_callB (bl_isiF h5 rfl hX hz hf) rfl G.f_isinstance (by kernel_rfl) (ea_cons (ex_var 3) (ea_cons (ex_glob n_BadNumber rfl rfl G.g_BadNumber) ea_nil))))) (ew_or1 (et_val (ex_callB (bl_isiF h5 rfl hX hz hf) rfl G.f_isinstance (by kernel_rfl) (ea_cons (ex_var 3) (ea_cons (ex_glob n_DivisionByZero rfl rfl G.g_DivisionByZero) ea_nil))))))) (es_one (es_ret (ex_bl))) (es_nil)) (es_cons (es_if (EW.et (ew_or (et_cmp bin_isnot (ex_var 1) (ex_non) (by first | rfl | with_unfolding_all rfl)) (ew_or1 (et_not (et_val (ex_callB (bl_isiF h5 rfl hX hz hf) rfl G.f_isinstance (by kernel_rfl) (ea_cons (ex_var 3) (ea_cons (ex_ty rfl G.f_ValueError (by kernel_rfl)) ea_nil)))))))) (es_one (es_ret (ex_bl))) (es_nil)) (es_one (es_ret (ex_and (ex_callB (bl_isi h5 rfl) rfl G.f_isinstance (by kernel_rfl) (ea_cons (ex_attrX n_text rfl hX hz hf (ex_var 3)) (ea_cons (ex_ty rfl G.f_str (by kernel_rfl)) ea_nil))) (ex_one (ex_cmp bin_cmpX (ex_attrX n_text rfl hX hz hf (ex_var 3)) (ex_var 0) (by first | rfl | with_unfolding_all rfl))))))))) (es_cons (es_if (et_cmp bin_is (ex_var 1) (ex_non) (by first | rfl | with_unfolding_all rfl)) (es_one (es_ret (ex_bl))) (es_nil)) (es_one (es_ret (ex_and (ex_call D__law_is C0 (by decide) rfl (ea_cons (ex_var 2) (ea_cons (ex_var 1) ea_nil))) (ex_one (ex_cmp (bin_cmp h5 rfl C0 (by decide)) (ex_callTy (bl_str h5 rfl C0 (by decide)) rfl G.f_str (by kernel_rfl) (ea_cons (ex_var 2) ea_nil)) (ex_var 0) (by first | rfl | with_unfolding_all rfl)))))))))
noncomputable def b__law_writes : MS := mSeq (mAsg 2 (mCall m__law_text [mVar 0])) (mSeq (mIfS (mB (mBin (isND) (mCall m__law_reading [mVar 2]) (mC .non))) (mRet (mC (.bl true))) (mNext)) (mSeq (mAsg 3 (mCall m_F_read [mVar 2])) (mSeq (mAsg 4 (mCall m__law_low [mBin (opD T5 .Mult) (mBin ixD (mVar 0) (mC (.int 0))) (mBin ixD (mVar 1) (mC (.int 0))), mBin (opD T5 .Mult) (mBin ixD (mVar 0) (mC (.int 1))) (mBin ixD (mVar 1) (mC (.int 1)))])) (mSeq (mAsg 5 (mBin (opD T5 .Mult) (mVar 3) (mNew T5 n_Frac [mBin ixD (mVar 1) (mC (.int 0)), mBin ixD (mVar 1) (mC (.int 1))]))) (mSeq (mIfS (mOr (mB (mBin (cmpD T5 .NotEq) (mCall (strD T5) [mVar 5]) (mCall m__law_text [mVar 4]))) (mNot (mTru (mCall m__law_reads [mCall m__law_text [mVar 4]])))) (mRet (mC (.bl false))) (mNext)) (mSeq (mAsg 6 (mTup [mBin (opD T5 .Mult) (mBin ixD (mVar 0) (mC (.int 0))) (mBin ixD (mVar 0) (mC (.int 0))), mBin (opD T5 .Mult) (mBin ixD (mVar 0) (mC (.int 1))) (mBin ixD (mVar 0) (mC (.int 1)))])) (mSeq (mIfS (mOr (mB (mBin (cmpD T5 .NotEq) (mCall (strD T5) [mBin (opD T5 .Mult) (mVar 3) (mVar 3)]) (mCall m__law_text [mVar 6]))) (mNot (mTru (mCall m__law_reads [mCall m__law_text [mVar 6]])))) (mRet (mC (.bl false))) (mNext)) (mSeq (mIfS (mB (mBin (cmpD T5 .NotEq) (mCall (strD T5) [mUn (negD T5) (mVar 3)]) (mCall m__law_text [mTup [mUn (negD T5) (mBin ixD (mVar 0) (mC (.int 0))), mBin ixD (mVar 0) (mC (.int 1))]]))) (mRet (mC (.bl false))) (mNext)) (mRet (mAndV (mBin (cmpD T5 .Eq) (mCall (strD T5) [mVar 3]) (mVar 2)) (mCall m__law_is [mVar 3, mVar 0])))))))))))
noncomputable def m__law_writes : Fn := mDef 7 b__law_writes
theorem sc__law_writes : FnScope ["_law_value", "_law_other", "_law_text_here", "_law_first", "_law_product", "_law_made", "_law_square"] ["_law_value", "_law_other"] (defScope st__law_writes) := ⟨rfl, rfl, rfl, by decide +kernel, rfl, by decide +kernel, by decide +kernel⟩
theorem ok__law_writes {f : Addr} {fd : FuncData} {dvs : List V} {kws : List (Str × V)} (G : Gn K mg) (h5 : T5.Ok P w K mg base 18) (hT : T6.Ok P w K mg base 23) (D__law_text : DefOk P w K mg base tn 22 "_law_text" 1 m__law_text) (D__law_reading : DefOk P w K mg base tn 23 "_law_reading" 1 m__law_reading) (D__law_low : DefOk P w K mg base tn 23 "_law_low" 2 m__law_low) (D__law_reads : DefOk P w K mg base tn 27 "_law_reads" 1 m__law_reads) (D__law_is : DefOk P w K mg base tn 23 "_law_is" 2 m__law_is) (SM_F_read : SmOk P w K mg base tn 23 "Frac" "read" 1 m_F_read) (F : FunD K "_law_writes" "_law_writes" (defArgs st__law_writes) (defBody st__law_writes) (defScope st__law_writes) dvs kws f fd) : FnOk P w K mg base (L2.CX P w) 28 f fd ["_law_value", "_law_other"] (spM ⟨K, mg, tn, none⟩ 2 m__law_writes) :=
  fn_mk (fl := ⟨tn, none⟩) (st := st__law_writes) (N := ["_law_value", "_law_other", "_law_text_here", "_law_first", "_law_product", "_law_made", "_law_square"]) (ps := ["_law_value", "_law_other"]) (qual := "_law_writes") (k := 27) (body := b__law_writes) F sc__law_writes rfl fun cdv A outer s H E C0 Z0 => es_cons (es_set sc__law_writes.nd rfl (Or.inl rfl) (ex_call D__law_text C0 (by decide) rfl (ea_cons (ex_var 0) ea_nil))) (es_cons (es_if (et_cmp bin_is (ex_call D__law_reading C0 (by decide) rfl (ea_cons (ex_var 2) ea_nil)) (ex_non) (by first | rfl | with_unfolding_all rfl)) (es_one (es_ret (ex_bl))) (es_nil)) (es_cons (es_set sc__law_writes.nd rfl (Or.inl rfl) (ex_smeth SM_F_read C0 (by decide) rfl rfl (ea_cons (ex_var 2) ea_nil))) (es_cons (es_set sc__law_writes.nd rfl (Or.inl rfl) (ex_call D__law_low C0 (by decide) rfl (ea_cons (ex_bin (bin_op h5 rfl C0 (by decide)) (ex_ix (ex_var 0) (ex_int)) (ex_ix (ex_var 1) (ex_int))) (ea_cons (ex_bin (bin_op h5 rfl C0 (by decide)) (ex_ix (ex_var 0) (ex_int)) (ex_ix (ex_var 1) (ex_int))) ea_nil)))) (es_cons (es_set sc__law_writes.nd rfl (Or.inl rfl) (ex_bin (bin_op h5 rfl C0 (by decide)) (ex_var 3) (ex_new n_Frac rfl h5 rfl C0 (by decide) rfl rfl (ea_cons (ex_ix (ex_var 1) (ex_int)) (ea_cons (ex_ix (ex_var 1) (ex_int)) ea_nil))))) (es_cons (es_if (EW.et (ew_or (et_cmp (bin_cmp h5 rfl C0 (by decide)) (ex_callTy (bl_str h5 rfl C0 (by decide)) rfl G.f_str (by kernel_rfl) (ea_cons (ex_var 5) ea_nil)) (ex_call D__law_text C0 (by decide) rfl (ea_cons (ex_var 4) ea_nil)) (by first | rfl | with_unfolding_all rfl)) (ew_or1 (et_not (et_val (ex_call D__law_reads C0 (by decide) rfl (ea_cons (ex_call D__law_text C0 (by decide) rfl (ea_cons (ex_var 4) ea_nil)) ea_nil))))))) (es_one (es_ret (ex_bl))) (es_nil)) (es_cons (es_set sc__law_writes.nd rfl (Or.inl rfl) (ex_tup (ea_cons (ex_bin (bin_op h5 rfl C0 (by decide)) (ex_ix (ex_var 0) (ex_int)) (ex_ix (ex_var 0) (ex_int))) (ea_cons (ex_bin (bin_op h5 rfl C0 (by decide)) (ex_ix (ex_var 0) (ex_int)) (ex_ix (ex_var 0) (ex_int))) ea_nil)))) (es_cons (es_if (EW.et (ew_or (et_cmp (bin_cmp h5 rfl C0 (by decide)) (ex_callTy (bl_str h5 rfl C0 (by decide)) rfl G.f_str (by kernel_rfl) (ea_cons (ex_bin (bin_op h5 rfl C0 (by decide)) (ex_var 3) (ex_var 3)) ea_nil)) (ex_call D__law_text C0 (by decide) rfl (ea_cons (ex_var 6) ea_nil)) (by first | rfl | with_unfolding_all rfl)) (ew_or1 (et_not (et_val (ex_call D__law_reads C0 (by decide) rfl (ea_cons (ex_call D__law_text C0 (by decide) rfl (ea_cons (ex_var 6) ea_nil)) ea_nil))))))) (es_one (es_ret (ex_bl))) (es_nil)) (es_cons (es_if (et_cmp (bin_cmp h5 rfl C0 (by decide)) (ex_callTy (bl_str h5 rfl C0 (by decide)) rfl G.f_str (by kernel_rfl) (ea_cons (ex_un (un_negD h5 rfl C0 (by decide)) (ex_var 3)) ea_nil)) (ex_call D__law_text C0 (by decide) rfl (ea_cons (ex_tup (ea_cons (ex_un (un_negD h5 rfl C0 (by decide)) (ex_ix (ex_var 0) (ex_int))) (ea_cons (ex_ix (ex_var 0) (ex_int)) ea_nil))) ea_nil)) (by first | rfl | with_unfolding_all rfl)) (es_one (es_ret (ex_bl))) (es_nil)) (es_one (es_ret (ex_and (ex_cmp (bin_cmp h5 rfl C0 (by decide)) (ex_callTy (bl_str h5 rfl C0 (by decide)) rfl G.f_str (by kernel_rfl) (ea_cons (ex_var 3) ea_nil)) (ex_var 2) (by first | rfl | with_unfolding_all rfl)) (ex_one (ex_call D__law_is C0 (by decide) rfl (ea_cons (ex_var 3) (ea_cons (ex_var 0) ea_nil)))))))))))))))
noncomputable def lb_law_0 : MS := mSeq (mAsg 3 (mBin (opD T5 .Mod) (mCall intD [mCall m__law_cell [mVar 0, mBin (opD T5 .Add) (mC (.int 9)) (mBin (opD T5 .Mult) (mC (.int 3)) (mVar 2))]]) (mC (.int 22)))) (mSeq (mAsg 4 (mBin ixD (mC (.str "0123456789-+/ ._aeE\n")) (mBin (opD T5 .Mod) (mCall intD [mCall m__law_cell [mVar 0, mBin (opD T5 .Add) (mC (.int 11)) (mBin (opD T5 .Mult) (mC (.int 3)) (mVar 2))]]) (mC (.int 20))))) (mSeq (mAsg 5 (mCall m__law_spoilt [mVar 1, mVar 3, mCall m__law_cell [mVar 0, mBin (opD T5 .Add) (mC (.int 10)) (mBin (opD T5 .Mult) (mC (.int 3)) (mVar 2))], mVar 4])) (mIfS (mOr (mNot (mTru (mCall m__law_reads [mVar 5]))) (mNot (mTru (mCall m__law_reads [mVar 5])))) (mRet (mC (.bl false))) (mNext))))
noncomputable def b_law : MS := mSeq (mAsg 0 (mFz (mSl (mVar 0) (mPn) (mPs (mC (.int 63)))))) (mSeq (mIfS (mNot (mTru (mCall m__law_integer [mC (.int 40), mC (.int 40)]))) (mRet (mC (.bl false))) (mNext)) (mSeq (mAsg 1 (mCall m__law_drawn [mVar 0])) (mSeq (mIfS (mNot (mTru (mCall m__law_reads [mCall m__law_text [mVar 1]]))) (mRet (mC (.bl false))) (mNext)) (mSeq (mFor (iRange1 (mC (.int 8))) (gNm 2) lb_law_0) (mSeq (mAsg 6 (mBin (opD T5 .Add) (mBin (opD T5 .Mod) (mCall intD [mCall m__law_cell [mVar 0, mC (.int 34)]]) (mBin (opD T5 .Pow) (mC (.int 10)) (mC (.int 12)))) (mC (.int 1)))) (mSeq (mAsg 7 (mCall m__law_low [mBin (opD T5 .Sub) (mBin (opD T5 .Mod) (mCall intD [mCall m__law_cell [mVar 0, mC (.int 33)]]) (mBin (opD T5 .Add) (mBin (opD T5 .Mult) (mC (.int 2)) (mBin (opD T5 .Pow) (mC (.int 10)) (mC (.int 12)))) (mC (.int 1)))) (mBin (opD T5 .Pow) (mC (.int 10)) (mC (.int 12))), mVar 6])) (mSeq (mIfS (mB (mBin (cmpD T5 .NotEq) (mCall (strD T5) [mNew T5 n_Frac [mBin ixD (mVar 7) (mC (.int 0)), mBin ixD (mVar 7) (mC (.int 1))]]) (mCall m__law_text [mVar 7]))) (mRet (mC (.bl false))) (mNext)) (mSeq (mAsg 8 (mBin mulS (mC (.str "7")) (mBin (opD T5 .Add) (mC (.int 41)) (mBin (opD T5 .Mod) (mCall intD [mCall m__law_cell [mVar 0, mC (.int 35)]]) (mC (.int 19000)))))) (mSeq (mIfS (mOr (mNot (mTru (mCall m__law_reads [mVar 8]))) (mNot (mTru (mCall m__law_reads [mBin (opD T5 .Add) (mC (.str "1/")) (mVar 8)])))) (mRet (mC (.bl false))) (mNext)) (mRet (mAndV (mCall m__law_writes [mVar 1, mVar 7]) (mCall m__law_writes [mVar 7, mVar 7]))))))))))))
noncomputable def m_law : Fn := mDef 9 b_law
theorem sc_law : FnScope ["_law_script", "_law_value", "_law_k", "_law_kind", "_law_char", "_law_text_here", "_law_below", "_law_other", "_law_great"] ["_law_script"] (defScope st_law) := ⟨rfl, rfl, rfl, by decide +kernel, rfl, by decide +kernel, by decide +kernel⟩
theorem ok_law {f : Addr} {fd : FuncData} {dvs : List V} {kws : List (Str × V)} (G : Gn K mg) (h5 : T5.Ok P w K mg base 18) (hT : T6.Ok P w K mg base 23) (D__law_integer : DefOk P w K mg base tn 22 "_law_integer" 2 m__law_integer) (D__law_drawn : DefOk P w K mg base tn 24 "_law_drawn" 1 m__law_drawn) (D__law_reads : DefOk P w K mg base tn 27 "_law_reads" 1 m__law_reads) (D__law_text : DefOk P w K mg base tn 22 "_law_text" 1 m__law_text) (D__law_cell : DefOk P w K mg base tn 22 "_law_cell" 2 m__law_cell) (D__law_spoilt : DefOk P w K mg base tn 23 "_law_spoilt" 4 m__law_spoilt) (D__law_low : DefOk P w K mg base tn 23 "_law_low" 2 m__law_low) (D__law_writes : DefOk P w K mg base tn 28 "_law_writes" 2 m__law_writes) (F : FunD K "law" "law" (defArgs st_law) (defBody st_law) (defScope st_law) dvs kws f fd) : FnOk P w K mg base (L2.CX P w) 29 f fd ["_law_script"] (spM ⟨K, mg, tn, none⟩ 1 m_law) :=
  fn_mk (fl := ⟨tn, none⟩) (st := st_law) (N := ["_law_script", "_law_value", "_law_k", "_law_kind", "_law_char", "_law_text_here", "_law_below", "_law_other", "_law_great"]) (ps := ["_law_script"]) (qual := "law") (k := 28) (body := b_law) F sc_law rfl fun cdv A outer s H E C0 Z0 => es_cons (es_set sc_law.nd rfl (Or.inl rfl) (ex_fz (ex_slice (ex_var 0) (eo_none) (eo_some (ex_int))))) (es_cons (es_if (et_not (et_val (ex_call D__law_integer C0 (by decide) rfl (ea_cons (ex_ccon G.c_Frac_MOST_FIGURES rfl G.g_Frac) (ea_cons (ex_int) ea_nil))))) (es_one (es_ret (ex_bl))) (es_nil)) (es_cons (es_set sc_law.nd rfl (Or.inl rfl) (ex_call D__law_drawn C0 (by decide) rfl (ea_cons (ex_var 0) ea_nil))) (es_cons (es_if (et_not (et_val (ex_call D__law_reads C0 (by decide) rfl (ea_cons (ex_call D__law_text C0 (by decide) rfl (ea_cons (ex_var 1) ea_nil)) ea_nil)))) (es_one (es_ret (ex_bl))) (es_nil)) (es_cons (es_for C0.po C0.calm (ei_range1 rfl G.f_range (ea_cons (ex_int) ea_nil)) (eg_name sc_law.nd rfl (Or.inl rfl)) (plain_nm 2) (es_cons (es_set sc_law.nd rfl (Or.inl rfl) (ex_bin (bin_op h5 rfl C0 (by decide)) (ex_callTy bl_int rfl G.f_int (by kernel_rfl) (ea_cons (ex_call D__law_cell C0 (by decide) rfl (ea_cons (ex_var 0) (ea_cons (ex_bin (bin_op h5 rfl C0 (by decide)) (ex_int) (ex_bin (bin_op h5 rfl C0 (by decide)) (ex_int) (ex_var 2))) ea_nil))) ea_nil)) (ex_int))) (es_cons (es_set sc_law.nd rfl (Or.inl rfl) (ex_ix (ex_str) (ex_bin (bin_op h5 rfl C0 (by decide)) (ex_callTy bl_int rfl G.f_int (by kernel_rfl) (ea_cons (ex_call D__law_cell C0 (by decide) rfl (ea_cons (ex_var 0) (ea_cons (ex_bin (bin_op h5 rfl C0 (by decide)) (ex_int) (ex_bin (bin_op h5 rfl C0 (by decide)) (ex_int) (ex_var 2))) ea_nil))) ea_nil)) (ex_int)))) (es_cons (es_set sc_law.nd rfl (Or.inl rfl) (ex_call D__law_spoilt C0 (by decide) rfl (ea_cons (ex_var 1) (ea_cons (ex_var 3) (ea_cons (ex_call D__law_cell C0 (by decide) rfl (ea_cons (ex_var 0) (ea_cons (ex_bin (bin_op h5 rfl C0 (by decide)) (ex_int) (ex_bin (bin_op h5 rfl C0 (by decide)) (ex_int) (ex_var 2))) ea_nil))) (ea_cons (ex_var 4) ea_nil)))))) (es_one (es_if (EW.et (ew_or (et_not (et_val (ex_call D__law_reads C0 (by decide) rfl (ea_cons (ex_var 5) ea_nil)))) (ew_or1 (et_not (et_val (ex_call D__law_reads C0 (by decide) rfl (ea_cons (ex_var 5) ea_nil))))))) (es_one (es_ret (ex_bl))) (es_nil))))))) (es_cons (es_set sc_law.nd rfl (Or.inl rfl) (ex_bin (bin_op h5 rfl C0 (by decide)) (ex_bin (bin_op h5 rfl C0 (by decide)) (ex_callTy bl_int rfl G.f_int (by kernel_rfl) (ea_cons (ex_call D__law_cell C0 (by decide) rfl (ea_cons (ex_var 0) (ea_cons (ex_int) ea_nil))) ea_nil)) (ex_bin (bin_op h5 rfl C0 (by decide)) (ex_int) (ex_int))) (ex_int))) (es_cons (es_set sc_law.nd rfl (Or.inl rfl) (ex_call D__law_low C0 (by decide) rfl (ea_cons (ex_bin (bin_op h5 rfl C0 (by decide)) (ex_bin (bin_op h5 rfl C0 (by decide)) (ex_callTy bl_int rfl G.f_int (by kernel_rfl) (ea_cons (ex_call D__law_cell C0 (by decide) rfl (ea_cons (ex_var 0) (ea_cons (ex_int) ea_nil))) ea_nil)) (ex_bin (bin_op h5 rfl C0 (by decide)) (ex_bin (bin_op h5 rfl C0 (by decide)) (ex_int) (ex_bin (bin_op h5 rfl C0 (by decide)) (ex_int) (ex_int))) (ex_int))) (ex_bin (bin_op h5 rfl C0 (by decide)) (ex_int) (ex_int))) (ea_cons (ex_var 6) ea_nil)))) (es_cons (es_if (et_cmp (bin_cmp h5 rfl C0 (by decide)) (ex_callTy (bl_str h5 rfl C0 (by decide)) rfl G.f_str (by kernel_rfl) (ea_cons (ex_new n_Frac rfl h5 rfl C0 (by decide) rfl rfl (ea_cons (ex_ix (ex_var 7) (ex_int)) (ea_cons (ex_ix (ex_var 7) (ex_int)) ea_nil))) ea_nil)) (ex_call D__law_text C0 (by decide) rfl (ea_cons (ex_var 7) ea_nil)) (by first | rfl | with_unfolding_all rfl)) (es_one (es_ret (ex_bl))) (es_nil)) (es_cons (es_set sc_law.nd rfl (Or.inl rfl) (ex_bin bin_mulS (ex_str) (ex_bin (bin_op h5 rfl C0 (by decide)) (ex_int) (ex_bin (bin_op h5 rfl C0 (by decide)) (ex_callTy bl_int rfl G.f_int (by kernel_rfl) (ea_cons (ex_call D__law_cell C0 (by decide) rfl (ea_cons (ex_var 0) (ea_cons (ex_int) ea_nil))) ea_nil)) (ex_int))))) (es_cons (es_if (EW.et (ew_or (et_not (et_val (ex_call D__law_reads C0 (by decide) rfl (ea_cons (ex_var 8) ea_nil)))) (ew_or1 (et_not (et_val (ex_call D__law_reads C0 (by decide) rfl (ea_cons (ex_bin (bin_op h5 rfl C0 (by decide)) (ex_str) (ex_var 8)) ea_nil))))))) (es_one (es_ret (ex_bl))) (es_nil)) (es_one (es_ret (ex_and (ex_call D__law_writes C0 (by decide) rfl (ea_cons (ex_var 1) (ea_cons (ex_var 7) ea_nil))) (ex_one (ex_call D__law_writes C0 (by decide) rfl (ea_cons (ex_var 7) (ea_cons (ex_var 7) ea_nil))))))))))))))))
section
variable {h : Heap}
theorem fact (c : ck K = true) (i : Nat) {f : Fa} (e : fal[i]? = some f := by rfl) : f.ok K = true := List.all_eq_true.mp (ba (ba c).2).1 f (List.mem_of_getElem? e)
theorem cka (c : ck K = true) (i : Nat) {f : PySem.W.Frag → Bool} (e : cks[i]? = some f := by rfl) : f K = true := List.all_eq_true.mp (ba (ba c).2).2 f (List.mem_of_getElem? e)
theorem gn (X : K.In h) (G : h.Ns mainGlobals mg) (cc : ck K = true) : Gn K mg := ⟨He.free_ok X G (fact cc 21), He.free_ok X G (fact cc 22), He.free_ok X G (fact cc 23), He.free_ok X G (fact cc 24), He.free_ok X G (fact cc 25), He.free_ok X G (fact cc 26), He.free_ok X G (fact cc 27), He.free_ok X G (fact cc 28), He.free_ok X G (fact cc 29), He.free_ok X G (fact cc 30), He.glo_ok X G (fact cc 31), He.glo_ok X G (fact cc 32), He.glo_ok X G (fact cc 33), He.glo_ok X G (fact cc 34), He.glo_ok X G (fact cc 35), He.glo_ok X G (fact cc 36), He.glo_ok X G (fact cc 37), He.glo_ok X G (fact cc 38), He.glo_ok X G (fact cc 39), He.glo_ok X G (fact cc 40), He.glo_ok X G (fact cc 41), He.glo_ok X G (fact cc 42), He.glo_ok X G (fact cc 43), He.glo_ok X G (fact cc 44), He.glo_ok X G (fact cc 45), He.glo_ok X G (fact cc 46), He.glo_ok X G (fact cc 47), He.glo_ok X G (fact cc 48), He.glo_ok X G (fact cc 49), He.glo_ok X G (fact cc 50), (cka cc 2), PySem.W.mg_of X G (eqO_ok (cka cc 3))⟩
theorem dn_ok : ∀ k, k < 40 → S0.nm k = dnm k := fun k hk => if_pos hk
theorem inj_ok : ((List.range S0.N).map S0.nm).Nodup := by decide +kernel
theorem fl_ok : ∀ c ∈ S0.cls, ((S0.fl c).map S0.nm).Nodup ∧ ∀ f ∈ S0.fl c, f < S0.N := by decide +kernel
theorem all_ok (X : K.In h) (Gm : h.Ns mainGlobals mg) (c : SaysB ck fns K) (hPf : ((P.main.file : Str) == FILE) = true) (hPt : (P.main.scope.names.lookup ("super" : Str)).isSome = false) : ∃ fd, FunD K "law" "law" (defArgs st_law) (defBody st_law) (defScope st_law) [] [] (ga K "law") fd ∧ FnOk P w K mg base (L2.CX P w) 29 (ga K "law") fd ["_law_script"] (spM ⟨K, mg, tn, none⟩ 1 m_law) := by
  have cc := c.ck
  have G := gn X Gm cc
  have h0 : T0.Ok P w K mg base 0 := St.fine X Gm (ba cc).1 dn_ok inj_ok fl_ok
  obtain ⟨fd_F_init, D_F_init⟩ : ∃ fd, FunD K "__init__" "Frac.__init__" (defArgs st_F_init) (defBody st_F_init) (defScope st_F_init) [.int 0, .int 1] [] (Pl.ad K (.m "Frac" "__init__")) fd := c.def_ 0 (d := d_F_init)
  have h1 : T1.Ok P w K mg base 2 := (h0.mono (by decide)).ak (x := "Frac") rfl rfl G.g_Frac (fact cc 0) rfl (ok_F_init G h0 D_F_init) (fun W => .cons (.int 0) (.cons (.int 1) .nil)) (bi_F_init D_F_init)
  obtain ⟨fd_F_bool, D_F_bool⟩ : ∃ fd, FunD K "__bool__" "Frac.__bool__" (defArgs st_F_bool) (defBody st_F_bool) (defScope st_F_bool) [] [] (Pl.ad K (.m "Frac" "__bool__")) fd := c.def_ 1 (d := d_F_bool)
  have h2_0 := CT.Ok.am (c := n_Frac) (m := 21) (L := 6) (h1.mono (by decide)) rfl rfl G.g_Frac (fact cc 1) rfl (ok_F_bool G h1 D_F_bool) (D_F_bool.bindsN fun _ _ _ _ _ _ us hl => match us, hl with | [_], _ => rfl)
  obtain ⟨fd_F_neg, D_F_neg⟩ : ∃ fd, FunD K "__neg__" "Frac.__neg__" (defArgs st_F_neg) (defBody st_F_neg) (defScope st_F_neg) [] [] (Pl.ad K (.m "Frac" "__neg__")) fd := c.def_ 2 (d := d_F_neg)
  have h2_1 := CT.Ok.am (c := n_Frac) (m := 19) (L := 6) h2_0 rfl rfl G.g_Frac (fact cc 2) rfl (ok_F_neg G h1 D_F_neg) (D_F_neg.bindsN fun _ _ _ _ _ _ us hl => match us, hl with | [_], _ => rfl)
  obtain ⟨fd_F_abs, D_F_abs⟩ : ∃ fd, FunD K "__abs__" "Frac.__abs__" (defArgs st_F_abs) (defBody st_F_abs) (defScope st_F_abs) [] [] (Pl.ad K (.m "Frac" "__abs__")) fd := c.def_ 3 (d := d_F_abs)
  have h2_2 := CT.Ok.am (c := n_Frac) (m := 20) (L := 6) h2_1 rfl rfl G.g_Frac (fact cc 3) rfl (ok_F_abs G h1 D_F_abs) (D_F_abs.bindsN fun _ _ _ _ _ _ us hl => match us, hl with | [_], _ => rfl)
  obtain ⟨fd_F_add, D_F_add⟩ : ∃ fd, FunD K "__add__" "Frac.__add__" (defArgs st_F_add) (defBody st_F_add) (defScope st_F_add) [] [] (Pl.ad K (.m "Frac" "__add__")) fd := c.def_ 4 (d := d_F_add)
  have h2_3 := CT.Ok.am (c := n_Frac) (m := 1) (L := 6) h2_2 rfl rfl G.g_Frac (fact cc 4) rfl (ok_F_add G h1 D_F_add) (D_F_add.bindsN fun _ _ _ _ _ _ us hl => match us, hl with | [_, _], _ => rfl)
  obtain ⟨fd_F_radd, D_F_radd⟩ : ∃ fd, FunD K "__radd__" "Frac.__radd__" (defArgs st_F_radd) (defBody st_F_radd) (defScope st_F_radd) [] [] (Pl.ad K (.m "Frac" "__radd__")) fd := c.def_ 5 (d := d_F_radd)
  have h2_4 := CT.Ok.am (c := n_Frac) (m := 2) (L := 6) h2_3 rfl rfl G.g_Frac (fact cc 5) rfl (ok_F_radd G h1 D_F_radd) (D_F_radd.bindsN fun _ _ _ _ _ _ us hl => match us, hl with | [_, _], _ => rfl)
  obtain ⟨fd_F_sub, D_F_sub⟩ : ∃ fd, FunD K "__sub__" "Frac.__sub__" (defArgs st_F_sub) (defBody st_F_sub) (defScope st_F_sub) [] [] (Pl.ad K (.m "Frac" "__sub__")) fd := c.def_ 6 (d := d_F_sub)
  have h2_5 := CT.Ok.am (c := n_Frac) (m := 3) (L := 6) h2_4 rfl rfl G.g_Frac (fact cc 6) rfl (ok_F_sub G h1 D_F_sub) (D_F_sub.bindsN fun _ _ _ _ _ _ us hl => match us, hl with | [_, _], _ => rfl)
  obtain ⟨fd_F_rsub, D_F_rsub⟩ : ∃ fd, FunD K "__rsub__" "Frac.__rsub__" (defArgs st_F_rsub) (defBody st_F_rsub) (defScope st_F_rsub) [] [] (Pl.ad K (.m "Frac" "__rsub__")) fd := c.def_ 7 (d := d_F_rsub)
  have h2_6 := CT.Ok.am (c := n_Frac) (m := 4) (L := 6) h2_5 rfl rfl G.g_Frac (fact cc 7) rfl (ok_F_rsub G h1 D_F_rsub) (D_F_rsub.bindsN fun _ _ _ _ _ _ us hl => match us, hl with | [_, _], _ => rfl)
  obtain ⟨fd_F_mul, D_F_mul⟩ : ∃ fd, FunD K "__mul__" "Frac.__mul__" (defArgs st_F_mul) (defBody st_F_mul) (defScope st_F_mul) [] [] (Pl.ad K (.m "Frac" "__mul__")) fd := c.def_ 8 (d := d_F_mul)
  have h2_7 := CT.Ok.am (c := n_Frac) (m := 5) (L := 6) h2_6 rfl rfl G.g_Frac (fact cc 8) rfl (ok_F_mul G h1 D_F_mul) (D_F_mul.bindsN fun _ _ _ _ _ _ us hl => match us, hl with | [_, _], _ => rfl)
  obtain ⟨fd_F_rmul, D_F_rmul⟩ : ∃ fd, FunD K "__rmul__" "Frac.__rmul__" (defArgs st_F_rmul) (defBody st_F_rmul) (defScope st_F_rmul) [] [] (Pl.ad K (.m "Frac" "__rmul__")) fd := c.def_ 9 (d := d_F_rmul)
  have h2_8 := CT.Ok.am (c := n_Frac) (m := 6) (L := 6) h2_7 rfl rfl G.g_Frac (fact cc 9) rfl (ok_F_rmul G h1 D_F_rmul) (D_F_rmul.bindsN fun _ _ _ _ _ _ us hl => match us, hl with | [_, _], _ => rfl)
  obtain ⟨fd_F_floordiv, D_F_floordiv⟩ : ∃ fd, FunD K "__floordiv__" "Frac.__floordiv__" (defArgs st_F_floordiv) (defBody st_F_floordiv) (defScope st_F_floordiv) [] [] (Pl.ad K (.m "Frac" "__floordiv__")) fd := c.def_ 10 (d := d_F_floordiv)
  have h2_9 := CT.Ok.am (c := n_Frac) (m := 7) (L := 6) h2_8 rfl rfl G.g_Frac (fact cc 10) rfl (ok_F_floordiv G h1 D_F_floordiv) (D_F_floordiv.bindsN fun _ _ _ _ _ _ us hl => match us, hl with | [_, _], _ => rfl)
  obtain ⟨fd_F_pow, D_F_pow⟩ : ∃ fd, FunD K "__pow__" "Frac.__pow__" (defArgs st_F_pow) (defBody st_F_pow) (defScope st_F_pow) [] [] (Pl.ad K (.m "Frac" "__pow__")) fd := c.def_ 11 (d := d_F_pow)
  have h2_10 := CT.Ok.am (c := n_Frac) (m := 11) (L := 6) h2_9 rfl rfl G.g_Frac (fact cc 11) rfl (ok_F_pow G h1 D_F_pow) (D_F_pow.bindsN fun _ _ _ _ _ _ us hl => match us, hl with | [_, _], _ => rfl)
  obtain ⟨fd_F_eq, D_F_eq⟩ : ∃ fd, FunD K "__eq__" "Frac.__eq__" (defArgs st_F_eq) (defBody st_F_eq) (defScope st_F_eq) [] [] (Pl.ad K (.m "Frac" "__eq__")) fd := c.def_ 12 (d := d_F_eq)
  have h2_11 := CT.Ok.am (c := n_Frac) (m := 13) (L := 6) h2_10 rfl rfl G.g_Frac (fact cc 12) rfl (ok_F_eq G h1 D_F_eq) (D_F_eq.bindsN fun _ _ _ _ _ _ us hl => match us, hl with | [_, _], _ => rfl)
  obtain ⟨fd_F_lt, D_F_lt⟩ : ∃ fd, FunD K "__lt__" "Frac.__lt__" (defArgs st_F_lt) (defBody st_F_lt) (defScope st_F_lt) [] [] (Pl.ad K (.m "Frac" "__lt__")) fd := c.def_ 13 (d := d_F_lt)
  have h2_12 := CT.Ok.am (c := n_Frac) (m := 15) (L := 6) h2_11 rfl rfl G.g_Frac (fact cc 13) rfl (ok_F_lt G h1 D_F_lt) (D_F_lt.bindsN fun _ _ _ _ _ _ us hl => match us, hl with | [_, _], _ => rfl)
  obtain ⟨fd_F_le, D_F_le⟩ : ∃ fd, FunD K "__le__" "Frac.__le__" (defArgs st_F_le) (defBody st_F_le) (defScope st_F_le) [] [] (Pl.ad K (.m "Frac" "__le__")) fd := c.def_ 14 (d := d_F_le)
  have h2_13 := CT.Ok.am (c := n_Frac) (m := 16) (L := 6) h2_12 rfl rfl G.g_Frac (fact cc 14) rfl (ok_F_le G h1 D_F_le) (D_F_le.bindsN fun _ _ _ _ _ _ us hl => match us, hl with | [_, _], _ => rfl)
  obtain ⟨fd_F_gt, D_F_gt⟩ : ∃ fd, FunD K "__gt__" "Frac.__gt__" (defArgs st_F_gt) (defBody st_F_gt) (defScope st_F_gt) [] [] (Pl.ad K (.m "Frac" "__gt__")) fd := c.def_ 15 (d := d_F_gt)
  have h2_14 := CT.Ok.am (c := n_Frac) (m := 17) (L := 6) h2_13 rfl rfl G.g_Frac (fact cc 15) rfl (ok_F_gt G h1 D_F_gt) (D_F_gt.bindsN fun _ _ _ _ _ _ us hl => match us, hl with | [_, _], _ => rfl)
  obtain ⟨fd_F_ge, D_F_ge⟩ : ∃ fd, FunD K "__ge__" "Frac.__ge__" (defArgs st_F_ge) (defBody st_F_ge) (defScope st_F_ge) [] [] (Pl.ad K (.m "Frac" "__ge__")) fd := c.def_ 16 (d := d_F_ge)
  have h2_15 := CT.Ok.am (c := n_Frac) (m := 18) (L := 6) h2_14 rfl rfl G.g_Frac (fact cc 16) rfl (ok_F_ge G h1 D_F_ge) (D_F_ge.bindsN fun _ _ _ _ _ _ us hl => match us, hl with | [_, _], _ => rfl)
  obtain ⟨fd_F_str, D_F_str⟩ : ∃ fd, FunD K "__str__" "Frac.__str__" (defArgs st_F_str) (defBody st_F_str) (defScope st_F_str) [] [] (Pl.ad K (.m "Frac" "__str__")) fd := c.def_ 17 (d := d_F_str)
  have h2_16 := CT.Ok.am (c := n_Frac) (m := 22) (L := 6) h2_15 rfl rfl G.g_Frac (fact cc 17) rfl (ok_F_str G h1 D_F_str) (D_F_str.bindsN fun _ _ _ _ _ _ us hl => match us, hl with | [_], _ => rfl)
  have h2 : T2.Ok P w K mg base 6 := h2_16
  obtain ⟨fd_F_rfloordiv, D_F_rfloordiv⟩ : ∃ fd, FunD K "__rfloordiv__" "Frac.__rfloordiv__" (defArgs st_F_rfloordiv) (defBody st_F_rfloordiv) (defScope st_F_rfloordiv) [] [] (Pl.ad K (.m "Frac" "__rfloordiv__")) fd := c.def_ 18 (d := d_F_rfloordiv)
  have h3_0 := CT.Ok.am (c := n_Frac) (m := 8) (L := 10) (h2.mono (by decide)) rfl rfl G.g_Frac (fact cc 18) rfl (ok_F_rfloordiv G h2 D_F_rfloordiv) (D_F_rfloordiv.bindsN fun _ _ _ _ _ _ us hl => match us, hl with | [_, _], _ => rfl)
  have h3 : T3.Ok P w K mg base 10 := h3_0
  obtain ⟨fd_F_mod, D_F_mod⟩ : ∃ fd, FunD K "__mod__" "Frac.__mod__" (defArgs st_F_mod) (defBody st_F_mod) (defScope st_F_mod) [] [] (Pl.ad K (.m "Frac" "__mod__")) fd := c.def_ 19 (d := d_F_mod)
  have h3b_0 := CT.Ok.am (c := n_Frac) (m := 9) (L := 14) (h3.mono (by decide)) rfl rfl G.g_Frac (fact cc 19) rfl (ok_F_mod G h3 D_F_mod) (D_F_mod.bindsN fun _ _ _ _ _ _ us hl => match us, hl with | [_, _], _ => rfl)
  have h3b : T3b.Ok P w K mg base 14 := h3b_0
  obtain ⟨fd_F_rmod, D_F_rmod⟩ : ∃ fd, FunD K "__rmod__" "Frac.__rmod__" (defArgs st_F_rmod) (defBody st_F_rmod) (defScope st_F_rmod) [] [] (Pl.ad K (.m "Frac" "__rmod__")) fd := c.def_ 20 (d := d_F_rmod)
  have h4_0 := CT.Ok.am (c := n_Frac) (m := 10) (L := 18) (h3b.mono (by decide)) rfl rfl G.g_Frac (fact cc 20) rfl (ok_F_rmod G h3b D_F_rmod) (D_F_rmod.bindsN fun _ _ _ _ _ _ us hl => match us, hl with | [_, _], _ => rfl)
  have h4 : T4.Ok P w K mg base 18 := h4_0
  have h5 : T5.Ok P w K mg base 18 := CT.Ok.an h4 rfl rfl G.g_Frac (fact cc 12) (ni_F_eq G h1 D_F_eq) (D_F_eq.bindsN fun _ _ _ _ _ _ us hl => match us, hl with | [_, _], _ => rfl)
  obtain ⟨fd_BadNumber_init, D_BadNumber_init⟩ : ∃ fd, FunS K "__init__" "BadNumber.__init__" (defArgs st_BadNumber_init) (defBody st_BadNumber_init) (defScope st_BadNumber_init) (ga K "BadNumber") [] [] FILE (Pl.ad K (.m "BadNumber" "__init__")) fd := c.defS 21 (d := d_BadNumber_init)
  have O_BadNumber_init := ok_BadNumber_init (P := P) (w := w) (base := base) G (cka cc 0) hPf hPt D_BadNumber_init
  have XM_BadNumber : ExcMk P w K mg base tn 1 n_BadNumber 1 [n_text] := ExcMk.of (fs := ["text"]) (is := [1]) (cka cc 0) rfl G.g_BadNumber O_BadNumber_init (D_BadNumber_init.bindsN fun _ _ _ _ _ _ _ us hl => match us, hl with | [_, _], _ => rfl) rfl rfl rfl (by decide) (by decide) rfl
  have hX : XOk K mg tn XF := (XOk.cons (c := n_BadNumber) (ks := [n_text]) (fs := ["text"]) (cka cc 0) rfl G.g_BadNumber rfl (by decide) (by decide +kernel) XOk.nil)
  obtain ⟨fd_is_figures, D_is_figures⟩ : ∃ fd, FunD K "is_figures" "is_figures" (defArgs st_is_figures) (defBody st_is_figures) (defScope st_is_figures) [] [] (Pl.ad K (.g "is_figures")) fd := c.def_ 22 (d := d_is_figures)
  have O_is_figures := ok_is_figures G h5 h5  D_is_figures
  have K_is_figures : DefOk P w K mg base tn 22 "is_figures" 1 m_is_figures := DefOk.of D_is_figures G.g_is_figures rfl O_is_figures (D_is_figures.bindsN fun _ _ _ _ _ _ us hl => match us, hl with | [_], _ => rfl)
  obtain ⟨fd_F_read, D_F_read⟩ : ∃ fd, FunD K "read" "Frac.read" (defArgs st_F_read) (defBody st_F_read) (defScope st_F_read) [] [] (Pl.ad K (.s "Frac" "read")) fd := c.def_ 23 (d := d_F_read)
  have O_F_read := ok_F_read G h5 h5 K_is_figures XM_BadNumber D_F_read
  have SM_F_read : SmOk P w K mg base tn 23 "Frac" "read" 1 m_F_read := SmOk.of (cka cc 1) G.g_Frac rfl O_F_read (D_F_read.bindsN fun _ _ _ _ _ _ us hl => match us, hl with | [_], _ => rfl)
  obtain ⟨fd__law_cell, D__law_cell⟩ : ∃ fd, FunD K "_law_cell" "_law_cell" (defArgs st__law_cell) (defBody st__law_cell) (defScope st__law_cell) [] [] (Pl.ad K (.g "_law_cell")) fd := c.def_ 24 (d := d__law_cell)
  have O__law_cell := ok__law_cell G h5 h5  D__law_cell
  have K__law_cell : DefOk P w K mg base tn 22 "_law_cell" 2 m__law_cell := DefOk.of D__law_cell G.g__law_cell rfl O__law_cell (D__law_cell.bindsN fun _ _ _ _ _ _ us hl => match us, hl with | [_, _], _ => rfl)
  obtain ⟨fd__law_gcd, D__law_gcd⟩ : ∃ fd, FunD K "_law_gcd" "_law_gcd" (defArgs st__law_gcd) (defBody st__law_gcd) (defScope st__law_gcd) [] [] (Pl.ad K (.g "_law_gcd")) fd := c.def_ 25 (d := d__law_gcd)
  have O__law_gcd := ok__law_gcd G h5 h5  D__law_gcd
  have K__law_gcd : DefOk P w K mg base tn 22 "_law_gcd" 2 m__law_gcd := DefOk.of D__law_gcd G.g__law_gcd rfl O__law_gcd (D__law_gcd.bindsN fun _ _ _ _ _ _ us hl => match us, hl with | [_, _], _ => rfl)
  obtain ⟨fd__law_low, D__law_low⟩ : ∃ fd, FunD K "_law_low" "_law_low" (defArgs st__law_low) (defBody st__law_low) (defScope st__law_low) [] [] (Pl.ad K (.g "_law_low")) fd := c.def_ 26 (d := d__law_low)
  have O__law_low := ok__law_low G h5 h5 K__law_gcd D__law_low
  have K__law_low : DefOk P w K mg base tn 23 "_law_low" 2 m__law_low := DefOk.of D__law_low G.g__law_low rfl O__law_low (D__law_low.bindsN fun _ _ _ _ _ _ us hl => match us, hl with | [_, _], _ => rfl)
  obtain ⟨fd__law_number, D__law_number⟩ : ∃ fd, FunD K "_law_number" "_law_number" (defArgs st__law_number) (defBody st__law_number) (defScope st__law_number) [] [] (Pl.ad K (.g "_law_number")) fd := c.def_ 27 (d := d__law_number)
  have O__law_number := ok__law_number G h5 h5 K__law_cell D__law_number
  have K__law_number : DefOk P w K mg base tn 23 "_law_number" 3 m__law_number := DefOk.of D__law_number G.g__law_number rfl O__law_number (D__law_number.bindsN fun _ _ _ _ _ _ us hl => match us, hl with | [_, _, _], _ => rfl)
  obtain ⟨fd__law_drawn, D__law_drawn⟩ : ∃ fd, FunD K "_law_drawn" "_law_drawn" (defArgs st__law_drawn) (defBody st__law_drawn) (defScope st__law_drawn) [] [] (Pl.ad K (.g "_law_drawn")) fd := c.def_ 28 (d := d__law_drawn)
  have O__law_drawn := ok__law_drawn G h5 h5 K__law_cell K__law_number K__law_low D__law_drawn
  have K__law_drawn : DefOk P w K mg base tn 24 "_law_drawn" 1 m__law_drawn := DefOk.of D__law_drawn G.g__law_drawn rfl O__law_drawn (D__law_drawn.bindsN fun _ _ _ _ _ _ us hl => match us, hl with | [_], _ => rfl)
  obtain ⟨fd__law_figures, D__law_figures⟩ : ∃ fd, FunD K "_law_figures" "_law_figures" (defArgs st__law_figures) (defBody st__law_figures) (defScope st__law_figures) [] [] (Pl.ad K (.g "_law_figures")) fd := c.def_ 29 (d := d__law_figures)
  have O__law_figures := ok__law_figures G h5 h5  D__law_figures
  have K__law_figures : DefOk P w K mg base tn 22 "_law_figures" 1 m__law_figures := DefOk.of D__law_figures G.g__law_figures rfl O__law_figures (D__law_figures.bindsN fun _ _ _ _ _ _ us hl => match us, hl with | [_], _ => rfl)
  obtain ⟨fd__law_integer, D__law_integer⟩ : ∃ fd, FunD K "_law_integer" "_law_integer" (defArgs st__law_integer) (defBody st__law_integer) (defScope st__law_integer) [] [] (Pl.ad K (.g "_law_integer")) fd := c.def_ 30 (d := d__law_integer)
  have O__law_integer := ok__law_integer G h5 h5  D__law_integer
  have K__law_integer : DefOk P w K mg base tn 22 "_law_integer" 2 m__law_integer := DefOk.of D__law_integer G.g__law_integer rfl O__law_integer (D__law_integer.bindsN fun _ _ _ _ _ _ us hl => match us, hl with | [_, _], _ => rfl)
  obtain ⟨fd__law_is, D__law_is⟩ : ∃ fd, FunD K "_law_is" "_law_is" (defArgs st__law_is) (defBody st__law_is) (defScope st__law_is) [] [] (Pl.ad K (.g "_law_is")) fd := c.def_ 31 (d := d__law_is)
  have O__law_is := ok__law_is G h5 h5 K__law_integer D__law_is
  have K__law_is : DefOk P w K mg base tn 23 "_law_is" 2 m__law_is := DefOk.of D__law_is G.g__law_is rfl O__law_is (D__law_is.bindsN fun _ _ _ _ _ _ us hl => match us, hl with | [_, _], _ => rfl)
  obtain ⟨fd__law_reading, D__law_reading⟩ : ∃ fd, FunD K "_law_reading" "_law_reading" (defArgs st__law_reading) (defBody st__law_reading) (defScope st__law_reading) [] [] (Pl.ad K (.g "_law_reading")) fd := c.def_ 32 (d := d__law_reading)
  have O__law_reading := ok__law_reading G h5 h5 K__law_figures K__law_gcd D__law_reading
  have K__law_reading : DefOk P w K mg base tn 23 "_law_reading" 1 m__law_reading := DefOk.of D__law_reading G.g__law_reading rfl O__law_reading (D__law_reading.bindsN fun _ _ _ _ _ _ us hl => match us, hl with | [_], _ => rfl)
  obtain ⟨fd__law_short, D__law_short⟩ : ∃ fd, FunD K "_law_short" "_law_short" (defArgs st__law_short) (defBody st__law_short) (defScope st__law_short) [] [] (Pl.ad K (.g "_law_short")) fd := c.def_ 33 (d := d__law_short)
  have O__law_short := ok__law_short G h5 h5  D__law_short
  have K__law_short : DefOk P w K mg base tn 22 "_law_short" 1 m__law_short := DefOk.of D__law_short G.g__law_short rfl O__law_short (D__law_short.bindsN fun _ _ _ _ _ _ us hl => match us, hl with | [_], _ => rfl)
  obtain ⟨fd__law_text, D__law_text⟩ : ∃ fd, FunD K "_law_text" "_law_text" (defArgs st__law_text) (defBody st__law_text) (defScope st__law_text) [] [] (Pl.ad K (.g "_law_text")) fd := c.def_ 34 (d := d__law_text)
  have O__law_text := ok__law_text G h5 h5  D__law_text
  have K__law_text : DefOk P w K mg base tn 22 "_law_text" 1 m__law_text := DefOk.of D__law_text G.g__law_text rfl O__law_text (D__law_text.bindsN fun _ _ _ _ _ _ us hl => match us, hl with | [_], _ => rfl)
  obtain ⟨fd__law_spoilt, D__law_spoilt⟩ : ∃ fd, FunD K "_law_spoilt" "_law_spoilt" (defArgs st__law_spoilt) (defBody st__law_spoilt) (defScope st__law_spoilt) [] [] (Pl.ad K (.g "_law_spoilt")) fd := c.def_ 35 (d := d__law_spoilt)
  have O__law_spoilt := ok__law_spoilt G h5 h5 K__law_text K__law_short D__law_spoilt
  have K__law_spoilt : DefOk P w K mg base tn 23 "_law_spoilt" 4 m__law_spoilt := DefOk.of D__law_spoilt G.g__law_spoilt rfl O__law_spoilt (D__law_spoilt.bindsN fun _ _ _ _ _ _ us hl => match us, hl with | [_, _, _, _], _ => rfl)
  have h6 : T6.Ok P w K mg base 23 := (h5.mono (by decide))
  obtain ⟨fd__law_reads, D__law_reads⟩ : ∃ fd, FunD K "_law_reads" "_law_reads" (defArgs st__law_reads) (defBody st__law_reads) (defScope st__law_reads) [] [] (Pl.ad K (.g "_law_reads")) fd := c.def_ 36 (d := d__law_reads)
  have O__law_reads := ok__law_reads G h5 h6 K__law_reading K__law_is SM_F_read hX D__law_reads
  have K__law_reads : DefOk P w K mg base tn 27 "_law_reads" 1 m__law_reads := DefOk.of D__law_reads G.g__law_reads rfl O__law_reads (D__law_reads.bindsN fun _ _ _ _ _ _ us hl => match us, hl with | [_], _ => rfl)
  obtain ⟨fd__law_writes, D__law_writes⟩ : ∃ fd, FunD K "_law_writes" "_law_writes" (defArgs st__law_writes) (defBody st__law_writes) (defScope st__law_writes) [] [] (Pl.ad K (.g "_law_writes")) fd := c.def_ 37 (d := d__law_writes)
  have O__law_writes := ok__law_writes G h5 h6 K__law_text K__law_reading K__law_low K__law_reads K__law_is SM_F_read D__law_writes
  have K__law_writes : DefOk P w K mg base tn 28 "_law_writes" 2 m__law_writes := DefOk.of D__law_writes G.g__law_writes rfl O__law_writes (D__law_writes.bindsN fun _ _ _ _ _ _ us hl => match us, hl with | [_, _], _ => rfl)
  obtain ⟨fd_law, D_law⟩ : ∃ fd, FunD K "law" "law" (defArgs st_law) (defBody st_law) (defScope st_law) [] [] (Pl.ad K (.g "law")) fd := c.def_ 38 (d := d_law)
  have O_law := ok_law G h5 h6 K__law_integer K__law_drawn K__law_reads K__law_text K__law_cell K__law_spoilt K__law_low K__law_writes D_law
  exact ⟨fd_law, D_law, O_law⟩
end
end
end Lw


set_option Elab.async false
set_option linter.all false
set_option maxRecDepth 100000
set_option maxHeartbeats 1000000
/-! Q0: rationals as pairs of integers in lowest terms; sizes. Plain Lean. -/
namespace Bp
def sg (n d : Int) : Int := if d < 0 then -((Nat.gcd n.natAbs d.natAbs : Nat) : Int) else ((Nat.gcd n.natAbs d.natAbs : Nat) : Int)
theorem sg_dvd (n d : Int) : sg n d ∣ n ∧ sg n d ∣ d := by
  unfold sg
  have h1 : ((Nat.gcd n.natAbs d.natAbs : Nat) : Int) ∣ n := Int.ofNat_dvd_left.mpr (Nat.gcd_dvd_left _ _)
  have h2 : ((Nat.gcd n.natAbs d.natAbs : Nat) : Int) ∣ d := Int.ofNat_dvd_left.mpr (Nat.gcd_dvd_right _ _)
  split
  · exact ⟨Int.neg_dvd.mpr h1, Int.neg_dvd.mpr h2⟩
  · exact ⟨h1, h2⟩
theorem gcd_ne {n d : Int} (hd : d ≠ 0) : Nat.gcd n.natAbs d.natAbs ≠ 0 := fun h => by
  have := (Nat.gcd_eq_zero_iff.mp h).2
  omega
theorem sg_ne {n d : Int} (hd : d ≠ 0) : sg n d ≠ 0 := by
  have := gcd_ne (n := n) hd
  unfold sg
  split <;> omega
theorem sg_num {n d : Int} (hd : d ≠ 0) : n.fdiv (sg n d) = (Rat.divInt n d).num := by
  rw [Rat.num_divInt]
  obtain ⟨k, hk⟩ := (sg_dvd n d).1
  have hs := sg_ne (n := n) hd
  have e : n.fdiv (sg n d) = k := by
    conv => lhs; arg 1; rw [hk]
    exact Int.mul_fdiv_cancel_left _ hs
  rw [e]
  have hg := gcd_ne (n := n) hd
  have hgc : ((Int.gcd d n : Nat) : Int) = ((Nat.gcd n.natAbs d.natAbs : Nat) : Int) := by
    unfold Int.gcd; rw [Nat.gcd_comm]
  rw [hgc]
  symm
  apply Int.ediv_eq_of_eq_mul_right (by omega)
  unfold sg at hk
  rcases Int.lt_trichotomy d 0 with h | h | h
  · rw [if_pos h] at hk
    rw [Int.sign_eq_neg_one_of_neg h]
    conv => lhs; rw [hk]
    simp [Int.neg_mul]
  · exact absurd h hd
  · rw [if_neg (by omega)] at hk
    rw [Int.sign_eq_one_of_pos h, Int.one_mul]
    exact hk
theorem sg_den {n d : Int} (hd : d ≠ 0) : d.fdiv (sg n d) = ((Rat.divInt n d).den : Int) := by
  rw [Rat.den_divInt, if_neg hd]
  obtain ⟨k, hk⟩ := (sg_dvd n d).2
  have hs := sg_ne (n := n) hd
  have e : d.fdiv (sg n d) = k := by
    conv => lhs; arg 1; rw [hk]
    exact Int.mul_fdiv_cancel_left _ hs
  rw [e]
  have hg := gcd_ne (n := n) hd
  have hgc : Int.gcd d n = Nat.gcd n.natAbs d.natAbs := by
    unfold Int.gcd; rw [Nat.gcd_comm]
  rw [hgc, Int.natCast_ediv]
  symm
  apply Int.ediv_eq_of_eq_mul_right (by omega)
  unfold sg at hk
  rcases Int.lt_trichotomy d 0 with h | h | h
  · rw [if_pos h] at hk
    have : ((d.natAbs : Nat) : Int) = -d := by omega
    rw [this]
    conv => lhs; rw [hk]
    simp [Int.neg_mul]
  · exact absurd h hd
  · rw [if_neg (by omega)] at hk
    have : ((d.natAbs : Nat) : Int) = d := by omega
    rw [this]
    exact hk
/-! ### sizes -/
abbrev lg (n : Int) : Nat := n.natAbs.log2
theorem log2_le_of {n k : Nat} (h : n < 2 ^ (k + 1)) : n.log2 ≤ k := by
  by_cases z : n = 0
  · subst z; simp
  · have := (Nat.log2_lt z).mpr h
    omega
theorem lt_of_log2 {n k : Nat} (h : n.log2 ≤ k) : n < 2 ^ (k + 1) := by
  by_cases z : n = 0
  · subst z; exact Nat.two_pow_pos _
  · exact (Nat.log2_lt z).mp (by omega)
theorem log2_mono {n m : Nat} (h : n ≤ m) : n.log2 ≤ m.log2 := log2_le_of (Nat.lt_of_le_of_lt h (lt_of_log2 (Nat.le_refl _)))
theorem lg_mul {i j : Int} {a b : Nat} (h : lg i ≤ a) (h2 : lg j ≤ b) : lg (i * j) ≤ a + b + 1 := by
  unfold lg at *
  rw [Int.natAbs_mul]
  refine log2_le_of ?_
  have h3 := lt_of_log2 h
  have h4 := lt_of_log2 h2
  have e : 2 ^ (a + b + 1 + 1) = 2 ^ (a + 1) * 2 ^ (b + 1) := by rw [← Nat.pow_add]; congr 1; omega
  rw [e]
  exact Nat.mul_lt_mul'' h3 h4
theorem lg_add {i j : Int} {a : Nat} (h : lg i ≤ a) (h2 : lg j ≤ a) : lg (i + j) ≤ a + 1 := by
  unfold lg at *
  refine log2_le_of ?_
  have h3 := lt_of_log2 h
  have h4 := lt_of_log2 h2
  have e : 2 ^ (a + 1 + 1) = 2 ^ (a + 1) + 2 ^ (a + 1) := by rw [Nat.pow_succ]; omega
  have := Int.natAbs_add_le i j
  omega
theorem lg_neg {i : Int} : lg (-i) = lg i := by unfold lg; rw [Int.natAbs_neg]
theorem lg_le {i : Int} {k : Nat} (h1 : -(2 ^ (k + 1) : Int) < i) (h2 : i < (2 ^ (k + 1) : Int)) : lg i ≤ k := by
  refine log2_le_of ?_
  have e : ((2 ^ (k + 1) : Nat) : Int) = (2 ^ (k + 1) : Int) := by norm_cast
  omega
theorem lg_gcd {n d : Int} {a : Nat} (hd : d ≠ 0) (h : lg d ≤ a) : (Nat.gcd n.natAbs d.natAbs).log2 ≤ a :=
  log2_le_of (Nat.lt_of_le_of_lt (Nat.gcd_le_right _ (by omega)) (lt_of_log2 h))
theorem lg_fdiv {n s : Int} {a : Nat} (h : s ∣ n) (hn : lg n ≤ a) : lg (n.fdiv s) ≤ a := by
  obtain ⟨k, rfl⟩ := h
  by_cases hs : s = 0
  · subst hs; simp; exact Nat.zero_le _
  · rw [Int.mul_fdiv_cancel_left _ hs]
    unfold lg at *
    refine log2_le_of (Nat.lt_of_le_of_lt ?_ (lt_of_log2 hn))
    rw [Int.natAbs_mul]
    exact Nat.le_mul_of_pos_left _ (by omega)
def Sz (k : Nat) (q : Rat) : Prop := lg q.num ≤ k ∧ lg (q.den : Int) ≤ k
theorem Sz.mono {k l : Nat} {q : Rat} (h : Sz k q) (hl : k ≤ l) : Sz l q := ⟨Nat.le_trans h.1 hl, Nat.le_trans h.2 hl⟩
theorem Sz.divInt {n d : Int} {k : Nat} (hn : lg n ≤ k) (hd : lg d ≤ k) : Sz k (Rat.divInt n d) := by
  by_cases z : d = 0
  · subst z; rw [Rat.divInt_zero]; exact ⟨Nat.zero_le _, Nat.zero_le _⟩
  · rw [Sz, ← sg_num z, ← sg_den z]
    exact ⟨lg_fdiv (sg_dvd n d).1 hn, lg_fdiv (sg_dvd n d).2 hd⟩
theorem den_ne (q : Rat) : (q.den : Int) ≠ 0 := by have := q.den_nz; omega
theorem q_add (p q : Rat) : Rat.divInt (p.num * q.den + q.num * p.den) (p.den * q.den) = p + q := by
  conv => rhs; rw [← Rat.num_divInt_den p, ← Rat.num_divInt_den q]
  rw [Rat.divInt_add_divInt _ _ (den_ne p) (den_ne q)]
theorem q_sub (p q : Rat) : Rat.divInt (p.num * q.den - q.num * p.den) (p.den * q.den) = p - q := by
  conv => rhs; rw [← Rat.num_divInt_den p, ← Rat.num_divInt_den q]
  rw [Rat.divInt_sub_divInt _ _ (den_ne p) (den_ne q)]
theorem q_mul (p q : Rat) : Rat.divInt (p.num * q.num) (p.den * q.den) = p * q := by
  conv => rhs; rw [← Rat.num_divInt_den p, ← Rat.num_divInt_den q]
  rw [Rat.divInt_mul_divInt]
theorem q_div (p q : Rat) : Rat.divInt (p.num * q.den) (p.den * q.num) = p / q := by
  rw [Rat.div_def]
  conv => rhs; rw [← Rat.num_divInt_den p, ← Rat.num_divInt_den q]
  rw [Rat.inv_divInt, Rat.divInt_mul_divInt]
theorem Sz.add {a b : Nat} {p q : Rat} (h : Sz a p) (h2 : Sz b q) : Sz (a + b + 2) (p + q) := by
  rw [← q_add]
  refine Sz.divInt (lg_add (lg_mul h.1 h2.2) ?_) (Nat.le_trans (lg_mul h.2 h2.2) (by omega))
  rw [Nat.add_comm a b]
  exact lg_mul h2.1 h.2
theorem Sz.neg {a : Nat} {p : Rat} (h : Sz a p) : Sz a (-p) := ⟨by rw [Rat.neg_num, lg_neg]; exact h.1, h.2⟩
theorem Sz.sub {a b : Nat} {p q : Rat} (h : Sz a p) (h2 : Sz b q) : Sz (a + b + 2) (p - q) := by
  rw [Rat.sub_eq_add_neg]
  exact h.add h2.neg
theorem Sz.mul {a b : Nat} {p q : Rat} (h : Sz a p) (h2 : Sz b q) : Sz (a + b + 1) (p * q) := by
  rw [← q_mul]
  exact Sz.divInt (lg_mul h.1 h2.1) (lg_mul h.2 h2.2)
theorem Sz.int {a : Nat} {i : Int} (h : lg i ≤ a) : Sz a (i : Rat) := ⟨h, by show lg 1 ≤ a; exact Nat.zero_le _⟩
theorem Sz.i {k : Nat} {i : Int} (h : Sz k (i : Rat)) : lg i ≤ k := h.1
theorem Sz.zero {a : Nat} : Sz a 0 := ⟨Nat.zero_le _, Nat.zero_le _⟩
theorem Sz.one {a : Nat} : Sz a 1 := ⟨Nat.zero_le _, Nat.zero_le _⟩
/-! ### floor -/
theorem floor_divInt {n d : Int} (hd : 0 < d) : (Rat.divInt n d).floor = n.fdiv d := by
  rw [Int.fdiv_eq_ediv_of_nonneg _ (by omega)]
  refine Int.le_antisymm ?_ ?_
  · rw [Int.le_ediv_iff_mul_le hd]
    have h := Rat.floor_le (Rat.divInt n d)
    rw [Rat.divInt_eq_div] at h
    have hd' : (0 : Rat) < (d : Rat) := Rat.intCast_pos.mpr hd
    have h2 := Rat.mul_le_mul_of_nonneg_right h (Rat.le_of_lt hd')
    rw [Rat.div_mul_cancel (Rat.ne_of_gt hd'), ← Rat.divInt_eq_div, ← Rat.intCast_mul] at h2
    exact Rat.intCast_le_intCast.mp h2
  · rw [Rat.le_floor_iff, Rat.divInt_eq_div]
    have hd' : (0 : Rat) < (d : Rat) := Rat.intCast_pos.mpr hd
    refine Rat.le_of_mul_le_mul_right (c := (d : Rat)) ?_ hd'
    rw [Rat.div_mul_cancel (Rat.ne_of_gt hd'), ← Rat.intCast_mul]
    refine Rat.intCast_le_intCast.mpr ?_
    exact Int.ediv_mul_le _ (by omega)
theorem floor_divInt' {n d : Int} (hd : d ≠ 0) : (Rat.divInt n d).floor = n.fdiv d := by
  rcases Int.lt_trichotomy d 0 with h | h | h
  · rw [← Rat.neg_divInt_neg, floor_divInt (by omega)]
    simp
  · exact absurd h hd
  · exact floor_divInt h
theorem q_floordiv (p q : Rat) (hq : q ≠ 0) : (p.num * q.den).fdiv (p.den * q.num) = (p / q).floor := by
  rw [← q_div, floor_divInt']
  exact Int.mul_ne_zero (den_ne p) (fun h => hq (Rat.num_eq_zero.mp h))
theorem q_lt (p q : Rat) : (p.num * q.den < q.num * p.den) ↔ p < q := (Rat.lt_iff p q).symm
theorem q_le (p q : Rat) : (p.num * q.den ≤ q.num * p.den) ↔ p ≤ q := (Rat.le_iff p q).symm
theorem q_ext (p q : Rat) : (p.num = q.num ∧ (p.den : Int) = q.den) ↔ p = q := ⟨fun h => Rat.ext h.1 (by omega), fun h => by subst h; exact ⟨rfl, rfl⟩⟩
theorem q_absnum (p : Rat) : p.abs.num = (if p.num < 0 then -p.num else p.num) ∧ p.abs.den = p.den := by
  by_cases h : 0 ≤ p
  · have h2 := Rat.num_nonneg.mpr h
    rw [Rat.abs_of_nonneg h, if_neg (by omega)]
    exact ⟨rfl, rfl⟩
  · have h2 : ¬ 0 ≤ p.num := fun z => h (Rat.num_nonneg.mp z)
    have h3 : p ≤ 0 := Rat.le_of_lt (Rat.not_le.mp h)
    rw [Rat.abs_of_nonpos h3, if_pos (by omega)]
    exact ⟨rfl, rfl⟩
end Bp


set_option Elab.async false
set_option linter.all false
set_option maxRecDepth 100000
set_option maxHeartbeats 1000000
/-! BpP: what the mirrors' parts do: the pure side. -/
namespace Bp
open PySem L2 PyProof.Rows
mutual
theorem below_mono {a b : Nat} (h : a ≤ b) : ∀ d : D, below a d = true → below b d = true
  | .tup xs => fun q => by simp only [below] at q ⊢; exact belows_mono h xs q
  | .ins _ xs => fun q => by simp only [below] at q ⊢; exact belows_mono h xs q
  | .rl xs => fun q => by simp only [below] at q ⊢; exact belows_mono h xs q
  | .xv _ _ xs => fun q => by simp only [below] at q ⊢; exact belows_mono h xs q
  | .rk _ xs => fun q => by simp only [below] at q ⊢; exact belows_mono h xs q
  | .sc xs => fun q => by simp only [below] at q ⊢; exact belows_mono h xs q
  | .ref n => fun q => by simp only [below, decide_eq_true_eq] at q ⊢; omega
  | .non => fun _ => rfl
  | .bl _ => fun _ => rfl
  | .int _ => fun _ => rfl
  | .str _ => fun _ => rfl
  | .ty _ => fun _ => rfl
  | .glob _ => fun _ => rfl
theorem belows_mono {a b : Nat} (h : a ≤ b) : ∀ ds : List D, belows a ds = true → belows b ds = true
  | [] => fun _ => rfl
  | d :: ds => fun q => by
    simp only [belows, Bool.and_eq_true] at q ⊢
    exact ⟨below_mono h d q.1, belows_mono h ds q.2⟩
end
abbrev Cld (d : D) : Prop := below 0 d = true
theorem Cld.b {d : D} (h : Cld d) {k : Nat} : below k d = true := below_mono (Nat.zero_le _) d h
theorem belows_of_all {k : Nat} : ∀ {ds : List D}, (∀ d ∈ ds, below k d = true) → belows k ds = true
  | [], _ => rfl
  | d :: ds, h => by
    simp only [belows, Bool.and_eq_true]
    exact ⟨h d (by simp), belows_of_all fun x hx => h x (by simp [hx])⟩
theorem belows_map {α : Type} {e : α → D} {k : Nat} (h : ∀ x, below k (e x) = true) (xs : List α) : belows k (xs.map e) = true := belows_of_all fun d hd => by
  obtain ⟨x, _, rfl⟩ := List.mem_map.mp hd
  exact h x
@[simp] theorem below_int {k : Nat} {i : Int} : below k (.int i) = true := id rfl
@[simp] theorem below_bl {k : Nat} {i : Bool} : below k (.bl i) = true := id rfl
@[simp] theorem below_str {k : Nat} {i : PySem.Str} : below k (.str i) = true := id rfl
@[simp] theorem below_non {k : Nat} : below k .non = true := id rfl
@[simp] theorem below_tup {k : Nat} {xs : List D} : below k (.tup xs) = belows k xs := id rfl
@[simp] theorem below_ins {k c : Nat} {xs : List D} : below k (.ins c xs) = belows k xs := id rfl
@[simp] theorem below_rl {k : Nat} {xs : List D} : below k (.rl xs) = belows k xs := id rfl
@[simp] theorem below_rk {k : Nat} {ks : List Key} {xs : List D} : below k (.rk ks xs) = belows k xs := id rfl
@[simp] theorem below_ref {k n : Nat} : below k (.ref n) = decide (n < k) := id rfl
@[simp] theorem belows_nil {k : Nat} : belows k [] = true := id rfl
@[simp] theorem belows_cons {k : Nat} {d : D} {ds : List D} : belows k (d :: ds) = (below k d && belows k ds) := id rfl
theorem frz_below {S' : Store} {k q f : Nat} {d : D} (h : below k d = true) : frz S' k q (f + 1) d = some d := by
  unfold frz; rw [if_pos h]
theorem optL_id {g : D → Option D} : ∀ {ds : List D}, (∀ d ∈ ds, g d = some d) → optL g ds = some ds
  | [], _ => rfl
  | d :: ds, h => by
    unfold optL
    rw [h d (by simp), optL_id fun x hx => h x (by simp [hx])]
theorem below_mem {k : Nat} : ∀ {ds : List D}, belows k ds = true → ∀ d ∈ ds, below k d = true
  | [], _, _, h => by cases h
  | d :: ds, h, x, hx => by
    simp only [belows, Bool.and_eq_true] at h
    rcases List.mem_cons.mp hx with rfl | hx
    · exact h.1
    · exact below_mem h.2 x hx
theorem optL_below {S' : Store} {k q f : Nat} {ds : List D} (h : belows k ds = true) : optL (frz S' k q (f + 1)) ds = some ds := optL_id fun d hd => frz_below (below_mem h d hd)
theorem pfx_refl (S : Store) : pfx S S := ⟨Nat.le_refl _, fun _ _ => .inl rfl⟩
theorem pfx_ext (S U : Store) : pfx S (S ++ U) := ⟨by simp, fun i hi => .inl (List.getElem?_append_left hi)⟩
theorem gz_gen {S S' : Store} {d d' : D} (h : pfx S S') (h2 : frz S' S.length S'.length 9 d = some d') : gz S (.ok d S') = .ok d' (S'.take S.length) := by
  unfold gz; dsimp only; rw [if_pos h, h2]
theorem gz_val {S S' : Store} {d : D} (h : pfx S S') (h2 : below S.length d = true) : gz S (.ok d S') = .ok d (S'.take S.length) := gz_gen h (frz_below h2)
@[simp] theorem gz_same {S : Store} {d : D} (h : below S.length d = true) : gz S (.ok d S) = .ok d S := by
  rw [gz_val (pfx_refl S) h, List.take_length]
theorem gz_ext {S U : Store} {d : D} (h : below S.length d = true) : gz S (.ok d (S ++ U)) = .ok d S := by
  rw [gz_val (pfx_ext S U) h, List.take_left]
theorem frz_lst {S' : Store} {k q f n : Nat} {xs : List D} (hk : k ≤ n) (hq : n ≠ q) (h : S'[n]? = some (.lst xs)) (hb : belows k xs = true) : frz S' k q (f + 2) (.ref n) = some (.rl xs) := by
  unfold frz
  rw [if_neg (by simp only [below_ref, decide_eq_true_eq]; omega)]
  dsimp only
  rw [if_neg hq, h]
  dsimp only
  rw [optL_below hb]
  rfl
theorem gz_lst {S S' : Store} {n : Nat} {xs : List D} (h : pfx S S') (hk : S.length ≤ n) (h2 : S'[n]? = some (.lst xs)) (hb : belows S.length xs = true) : gz S (.ok (.ref n) S') = .ok (.rl xs) (S'.take S.length) :=
  gz_gen h (frz_lst hk (Nat.ne_of_lt (List.getElem?_eq_some_iff.mp h2).1) h2 hb)
theorem gz_new {S : Store} {xs : List D} (hb : belows S.length xs = true) : gz S (.ok (.ref S.length) (S ++ [.lst xs])) = .ok (.rl xs) S := by
  rw [gz_lst (pfx_ext S _) (Nat.le_refl _) (by simp) hb, List.take_left]
theorem gz_exc {S S' : Store} {e : Ex} (h : pfx S S') (h2 : belows S.length e.vs = true) : gz S (.exc e S') = .exc e (S'.take S.length) := by
  unfold gz; dsimp only; rw [if_pos h, optL_below h2]
theorem gz_exc0 {S : Store} {e : Ex} (h2 : belows S.length e.vs = true) : gz S (.exc e S) = .exc e S := by
  rw [gz_exc (pfx_refl S) h2, List.take_length]
@[simp] theorem gz_bl {S : Store} {b : Bool} : gz S (.ok (.bl b) S) = .ok (.bl b) S := gz_same rfl
@[simp] theorem gz_int {S : Store} {b : Int} : gz S (.ok (.int b) S) = .ok (.int b) S := gz_same rfl
@[simp] theorem gz_str {S : Store} {b : PySem.Str} : gz S (.ok (.str b) S) = .ok (.str b) S := gz_same rfl
@[simp] theorem gz_non {S : Store} : gz S (.ok .non S) = .ok .non S := gz_same rfl
@[simp] theorem gz_x0 {S : Store} {c : Nat} : gz S (.exc ⟨c, [], []⟩ S) = .exc ⟨c, [], []⟩ S := gz_exc0 rfl
@[simp] theorem gz_bad {S : Store} : gz S .bad = .bad := id rfl
/-! ### one step of evaluation, for whole calls only: what is not yet run stays as it is written -/
section
variable {env : Env} {S : Store} {a b c : ME} {m : ME} {ms : List ME} {ta tb : MT} {s1 s2 : MS} {i n : Nat} {d : D} {T : CT} {f : Nat} {g : Fn} {gg : MG} {x : Bool} {e : Ex} {k : Int}
@[simp] theorem ev_seq : mSeq s1 s2 env S = match s1 env S with | .nx env' S' => s2 env' S' | r => r := id rfl
@[simp] theorem ev_asg : mAsg i m env S = onR (m env S) env fun d S' => .nx (env.set i (some d)) S' := id rfl
@[simp] theorem ev_asgG : mAsgG gg m env S = onR (m env S) env fun d S' => gg d env S' := id rfl
@[simp] theorem ev_gnm : gNm i d env S = .nx (env.set i (some d)) S := id rfl
@[simp] theorem ev_gtup {gs : List MG} {ds : List D} : gTup gs (.tup ds) env S = if ds.length = gs.length then gTp gs ds env S else .bad := id rfl
@[simp] theorem ev_gtp0 : gTp [] [] env S = .nx env S := id rfl
@[simp] theorem ev_gtp1 {gs : List MG} {ds : List D} : gTp (gg :: gs) (d :: ds) env S = match gg d env S with | .nx env' S' => gTp gs ds env' S' | r => r := id rfl
@[simp] theorem ev_ret : mRet m env S = onR (m env S) env fun d S' => .rt d S' := id rfl
@[simp] theorem ev_retn : mRetN env S = .rt .non S := id rfl
@[simp] theorem ev_drop : mDrop m env S = onR (m env S) env fun _ S' => .nx env S' := id rfl
@[simp] theorem ev_ifs : mIfS ta s1 s2 env S = onR (ta env S) env fun k S' => if k = true then s1 env S' else s2 env S' := id rfl
@[simp] theorem ev_next : mNext env S = .nx env S := id rfl
@[simp] theorem ev_brk : mBrk env S = .bk env S := id rfl
@[simp] theorem ev_cnt : mCnt env S = .ct env S := id rfl
@[simp] theorem ev_c : mC d env S = .ok d S := id rfl
@[simp] theorem ev_var : mVar i env S = match env[i]? with | some (some d) => .ok d S | _ => .bad := id rfl
@[simp] theorem ev_bin {h : D → D → Store → Res D} : mBin h a b env S = (a env S).bind fun x S1 => (b env S1).bind fun y S2 => h x y S2 := id rfl
@[simp] theorem ev_un {h : D → Store → Res D} : mUn h a env S = (a env S).bind h := id rfl
@[simp] theorem ev_args0 : mArgs [] env S = .ok [] S := id rfl
@[simp] theorem ev_args1 : mArgs (m :: ms) env S = (m env S).bind fun d S1 => (mArgs ms env S1).bind fun ds S2 => .ok (d :: ds) S2 := id rfl
@[simp] theorem ev_tup : mTup ms env S = (mArgs ms env S).bind fun ds S' => .ok (.tup ds) S' := id rfl
@[simp] theorem ev_lst : mLst ms env S = (mArgs ms env S).bind fun ds S' => .ok (.ref S'.length) (S' ++ [.lst ds]) := id rfl
@[simp] theorem ev_if : mIf ta a b env S = (ta env S).bind fun k S1 => if k = true then a env S1 else b env S1 := id rfl
@[simp] theorem ev_and : mAnd ta tb env S = (ta env S).bind fun k S1 => if k = true then tb env S1 else .ok false S1 := id rfl
@[simp] theorem ev_or : mOr ta tb env S = (ta env S).bind fun k S1 => if k = true then .ok true S1 else tb env S1 := id rfl
@[simp] theorem ev_not : mNot ta env S = (ta env S).bind fun k S1 => .ok (!k) S1 := id rfl
@[simp] theorem ev_B : mB m env S = (m env S).bind asB := id rfl
@[simp] theorem ev_tru : mTru m env S = (m env S).bind truD := id rfl
@[simp] theorem ev_asB : asB (.bl x) S = .ok x S := id rfl
@[simp] theorem ev_notD : notD (.bl x) S = .ok (.bl (!x)) S := id rfl
@[simp] theorem ev_tru_b : truD (.bl x) S = .ok x S := id rfl
@[simp] theorem ev_tru_i : truD (.int k) S = .ok (k != 0) S := id rfl
@[simp] theorem ev_tru_n : truD .non S = .ok false S := id rfl
@[simp] theorem ev_tru_t {xs : List D} : truD (.tup xs) S = .ok (!xs.isEmpty) S := id rfl
def andV (d : D) (r : Store → Res D) (S : Store) : Res D := match d with
  | .bl true => r S
  | .bl false => .ok (.bl false) S
  | _ => .bad
def orV (d : D) (r : Store → Res D) (S : Store) : Res D := match d with
  | .bl true => .ok (.bl true) S
  | .bl false => r S
  | _ => .bad
@[simp] theorem ev_andV : mAndV a b env S = (a env S).bind fun d S1 => andV d (b env) S1 := id rfl
@[simp] theorem ev_orV : mOrV a b env S = (a env S).bind fun d S1 => orV d (b env) S1 := id rfl
@[simp] theorem ev_andb {r : Store → Res D} : andV (.bl x) r S = if x = true then r S else .ok (.bl false) S := by cases x <;> rfl
@[simp] theorem ev_orb {r : Store → Res D} : orV (.bl x) r S = if x = true then .ok (.bl true) S else r S := by cases x <;> rfl
@[simp] theorem ev_call : mCall g ms env S = (mArgs ms env S).bind g := id rfl
@[simp] theorem ev_attr : mAttr T f m env S = (m env S).bind (attrD T f) := id rfl
@[simp] theorem ev_new : mNew T f ms env S = (mArgs ms env S).bind (newD T f) := id rfl
@[simp] theorem ev_seta {mv : ME} : mSetA T f m mv env S = onR (mv env S) env fun v S1 => onR (m env S1) env fun o S2 => setD T f o v env S2 := id rfl
@[simp] theorem ev_meth : mMeth T f m ms env S = (m env S).bind fun o S1 => if hasM T f o S1 = true then (mArgs ms env S1).bind fun vs S2 => dund T (clsOf o S1) f (o :: vs) S2 else .bad := id rfl
@[simp] theorem ev_bm {ty : String} : mBm ty g m ms env S = (m env S).bind fun d S1 => if tyD ty d S1 = true then (mArgs ms env S1).bind fun ds S2 => g (d :: ds) S2 else .bad := id rfl
@[simp] theorem ev_aug {h : D → D → Store → Res D} : mAug i h m env S = match env[i]? with | some (some d) => onR (m env S) env fun y S1 => onR (h d y S1) env fun z S2 => .nx (env.set i (some z)) S2 | _ => .bad := id rfl
@[simp] theorem ev_sl {ml mh : Env → Store → Res (Option Int)} : mSl m ml mh env S = (m env S).bind fun d S1 => (ml env S1).bind fun lo S2 => (mh env S2).bind fun hi S3 => slD d lo hi S3 := id rfl
@[simp] theorem ev_pn : mPn env S = .ok none S := id rfl
@[simp] theorem ev_ps : mPs m env S = (m env S).bind asI := id rfl
@[simp] theorem ev_asI : asI (.int k) S = .ok (some k) S := id rfl
@[simp] theorem ev_for {it : Env → Store → Res Wk} {g : MG} {body : MS} : mFor it g body env S = onR (it env S) env fun w S' => mForW g body w env S' := id rfl
@[simp] theorem ev_fori {g : MG} {body : MS} {xs : List D} : mForW g body (.items xs) env S = forL g body xs env S := id rfl
@[simp] theorem ev_while {fuel : Env → Store → Nat} {body : MS} : mWhile fuel ta body env S = whileF ta body (fuel env S) env S := id rfl
@[simp] theorem ev_ival : iVal m env S = (m env S).bind itD := id rfl
@[simp] theorem ev_it_t {xs : List D} : itD (.tup xs) S = .ok (.items xs) S := id rfl
@[simp] theorem ev_it_s {xs : List D} : itD (.sc xs) S = .ok (.items xs) S := id rfl
@[simp] theorem ev_it_r {xs : List D} : itD (.rl xs) S = .ok (.items xs) S := id rfl
@[simp] theorem ev_mdef {body : MS} {ds : List D} : mDef n body ds S = gz S (finD (body (ds.map some ++ List.replicate (n - ds.length) none) S)) := id rfl
@[simp] theorem ev_mdefk {body : MS} {ds : List D} : mDefK n body ds S = gk S (finD (body (ds.map some ++ List.replicate (n - ds.length) none) S)) := id rfl
@[simp] theorem ev_fnx : finD (.nx env S) = .ok .non S := id rfl
@[simp] theorem ev_frt : finD (.rt d S) = .ok d S := id rfl
@[simp] theorem ev_fx : finD (.exc e env S) = .exc e S := id rfl
@[simp] theorem ev_int : Bp.intD [.int k] S = .ok (.int k) S := id rfl
@[simp] theorem ev_intb : Bp.intD [.bl x] S = .ok (.int (if x then 1 else 0)) S := id rfl
@[simp] theorem ev_raise0 : mRaise0 T n env S = if T.exo n = true then .exc ⟨n, [], []⟩ env S else .bad := id rfl
@[simp] theorem ev_isn : isND .non .non S = .ok (.bl true) S := id rfl
@[simp] theorem ev_isnn : isnND .non .non S = .ok (.bl false) S := id rfl
end
section
variable {T : CT} {S : Store} {i j : Int}
@[simp] theorem opi_add : opD T .Add (.int i) (.int j) S = .ok (.int (i + j)) S := by simp [opD, Bp.intOp]
@[simp] theorem opi_sub : opD T .Sub (.int i) (.int j) S = .ok (.int (i - j)) S := by simp [opD, Bp.intOp]
theorem opi_mul (h : lg i + lg j < 1000000) : opD T .Mult (.int i) (.int j) S = .ok (.int (i * j)) S := by simp [opD, Bp.intOp, h]
theorem opi_fdiv (h : j ≠ 0) (h2 : lg j < 9000) : opD T .FloorDiv (.int i) (.int j) S = .ok (.int (i.fdiv j)) S := by simp [opD, Bp.intOp, h, h2]
theorem opi_mod (h : j ≠ 0) : opD T .Mod (.int i) (.int j) S = .ok (.int (i.fmod j)) S := by simp [opD, Bp.intOp, h]
theorem opi_pow (h : 0 ≤ j) (h2 : j ≤ 1000000) (h3 : i.natAbs < 2 ^ 64) : opD T .Pow (.int i) (.int j) S = .ok (.int (i ^ j.toNat)) S := by
  have h4 : i.natAbs < 18446744073709551616 := h3
  simp [opD, Bp.intOp, h, h2, h4]
@[simp] theorem cmi_lt : cmpD T .Lt (.int i) (.int j) S = .ok (.bl (decide (i < j))) S := by simp [cmpD, Bp.intCmp]
@[simp] theorem cmi_le : cmpD T .LtE (.int i) (.int j) S = .ok (.bl (decide (i ≤ j))) S := by simp [cmpD, Bp.intCmp]
@[simp] theorem cmi_gt : cmpD T .Gt (.int i) (.int j) S = .ok (.bl (decide (j < i))) S := by simp [cmpD, Bp.intCmp]
@[simp] theorem cmi_ge : cmpD T .GtE (.int i) (.int j) S = .ok (.bl (decide (j ≤ i))) S := by simp [cmpD, Bp.intCmp]
@[simp] theorem cmi_eq : cmpD T .Eq (.int i) (.int j) S = .ok (.bl (decide (i = j))) S := by simp [cmpD, Bp.intCmp]
@[simp] theorem cmi_ne : cmpD T .NotEq (.int i) (.int j) S = .ok (.bl (!decide (i = j))) S := by simp [cmpD, Bp.intCmp]
@[simp] theorem cmb_eq {a b : Bool} : cmpD T .Eq (.bl a) (.bl b) S = .ok (.bl (decide (a = b))) S := id rfl
@[simp] theorem cmb_ne {a b : Bool} : cmpD T .NotEq (.bl a) (.bl b) S = .ok (.bl (!decide (a = b))) S := id rfl
@[simp] theorem cms_eq {a b : Str} : cmpD T .Eq (.str a) (.str b) S = .ok (.bl (decide (a = b))) S := id rfl
@[simp] theorem cms_ne {a b : Str} : cmpD T .NotEq (.str a) (.str b) S = .ok (.bl (!decide (a = b))) S := id rfl
@[simp] theorem negI : negD T (.int i) S = .ok (.int (-i)) S := id rfl
@[simp] theorem absI : absD T [.int i] S = .ok (.int (if i < 0 then -i else i)) S := id rfl
variable {a b c d : D} {xs : List D} {n : Nat}
theorem atI_nat {α : Type} {xs : List α} {k : Nat} : L2.atI xs (k : Int) = xs[k]? := by
  unfold L2.atI L2.ixN
  rw [if_pos (by omega)]
  by_cases h : k < xs.length
  · rw [if_pos (by omega)]; rfl
  · rw [if_neg (by omega), List.getElem?_eq_none (by omega)]; rfl
theorem ix_tup {k : Nat} {v : D} (h : xs[k]? = some v) : ixD (.tup xs) (.int k) S = .ok v S := by
  simp [ixD, seqD, atI_nat, h]
@[simp] theorem ix_0 : ixD (.tup (a :: xs)) (.int 0) S = .ok a S := ix_tup (k := 0) rfl
@[simp] theorem ix_1 : ixD (.tup (a :: b :: xs)) (.int 1) S = .ok b S := ix_tup (k := 1) rfl
@[simp] theorem ix_2 : ixD (.tup (a :: b :: c :: xs)) (.int 2) S = .ok c S := ix_tup (k := 2) rfl
@[simp] theorem ix_3 : ixD (.tup (a :: b :: c :: d :: xs)) (.int 3) S = .ok d S := ix_tup (k := 3) rfl
theorem ix_rl {k : Nat} {v : D} (h : xs[k]? = some v) : ixD (.rl xs) (.int k) S = .ok v S := by
  simp [ixD, seqD, atI_nat, h]
@[simp] theorem len_tup : lenD [.tup xs] S = .ok (.int xs.length) S := id rfl
end
/-! ### lists of the store -/
section
variable {T : CT} {S U : Store} {n m : Nat} {xs ys : List D} {i : Int}
theorem szK {n : Nat} (h : n ≤ 1000000) : n ≤ sizeLine := Nat.le_trans h (by rw [sizeLine_eq]; decide)
theorem cat_l {a b : D} (h1 : lstD a S = some xs) (h2 : lstD b S = some ys) (h : xs.length + ys.length ≤ 1000000) : catD .Add a b S = .ok (.ref S.length) (S ++ [.lst (xs ++ ys)]) := by
  unfold catD; rw [h1, h2]; dsimp only; rw [if_pos ⟨rfl, szK h⟩]
@[simp] theorem opc_rr {xs ys : List D} : opD T .Add (.rl xs) (.rl ys) S = catD .Add (.rl xs) (.rl ys) S := id rfl
@[simp] theorem opc_rf {xs : List D} {m : Nat} : opD T .Add (.rl xs) (.ref m) S = catD .Add (.rl xs) (.ref m) S := id rfl
@[simp] theorem opc_fr {xs : List D} {m : Nat} : opD T .Add (.ref m) (.rl xs) S = catD .Add (.ref m) (.rl xs) S := id rfl
@[simp] theorem opc_ff {n m : Nat} : opD T .Add (.ref n) (.ref m) S = catD .Add (.ref n) (.ref m) S := id rfl
@[simp] theorem lst_r {xs : List D} : lstD (.rl xs) S = some xs := id rfl
theorem lst_f {xs : List D} {n : Nat} (h : S[n]? = some (.lst xs)) : lstD (.ref n) S = some xs := by unfold lstD; dsimp only; rw [h]
theorem ops_add {x y : Str} (h : x.length + y.length ≤ sizeLine) : opD T .Add (.str x) (.str y) S = .ok (.str (x ++ y)) S := by simp [opD, h]
theorem str_i (h : lg i < 1920) : strD T [.int i] S = .ok (.str (toString i)) S := by simp [strD, h]
end
/-! ### loops -/
section
variable {g : MG} {body : MS} {xs : List D}
def turnF (g : MG) (body : MS) (d : D) (env : Env) (S : Store) : RS := match g d env S with
  | .nx e1 S1 => (match body e1 S1 with
    | .ct e2 S2 => .nx e2 S2
    | r => r)
  | r => r
theorem forL_cons (d : D) (ds : List D) (env : Env) (S : Store) (hp : (g d env S).pl) : forL g body (d :: ds) env S = (match turnF g body d env S with
    | .nx e2 S2 => forL g body ds e2 S2
    | .bk e2 S2 => .nx e2 S2
    | r => r) := by
  conv => lhs; unfold forL
  unfold turnF
  cases e : g d env S with
  | nx e1 S1 =>
    dsimp only
    cases e2 : body e1 S1 <;> rfl
  | bk _ _ => rw [e] at hp; exact hp.elim
  | ct _ _ => rfl
  | _ => rfl
theorem forL_inv (hp : Plain g) (P : Nat → Env → Store → Prop) : ∀ (xs : List D) (k : Nat) (env : Env) (S : Store), P k env S →
    (∀ i d env S, xs[i]? = some d → P (k + i) env S → ∃ env' S', turnF g body d env S = .nx env' S' ∧ P (k + i + 1) env' S') → ∃ env' S', forL g body xs env S = .nx env' S' ∧ P (k + xs.length) env' S'
  | [], k, env, S, h0, _ => ⟨env, S, rfl, h0⟩
  | d :: ds, k, env, S, h0, hs => by
    obtain ⟨e1, S1, h1, h2⟩ := hs 0 d env S rfl h0
    rw [forL_cons _ _ _ _ (hp d env S), h1]
    obtain ⟨e2, S2, h3, h4⟩ := forL_inv hp P ds (k + 1) e1 S1 h2 fun i d' env S hi hP => by
      have := hs (i + 1) d' env S (by simpa using hi) (by rw [show k + (i + 1) = k + 1 + i by omega]; exact hP)
      rw [show k + (i + 1) + 1 = k + 1 + i + 1 by omega] at this
      exact this
    refine ⟨e2, S2, h3, ?_⟩
    rw [show k + (d :: ds).length = k + 1 + ds.length by simp; omega]
    exact h4
theorem forL_ends (hp : Plain g) (P : Nat → Env → Store → Prop) (Q : RS → Prop) : ∀ (xs : List D) (k : Nat) (env : Env) (S : Store), P k env S →
    (∀ i d env S, xs[i]? = some d → P (k + i) env S → (match turnF g body d env S with
      | .nx env' S' => P (k + i + 1) env' S'
      | .bk env' S' => Q (.nx env' S')
      | r => Q r)) → (∀ env S, P (k + xs.length) env S → Q (.nx env S)) → Q (forL g body xs env S)
  | [], k, env, S, h0, _, hq => hq env S h0
  | d :: ds, k, env, S, h0, hs, hq => by
    have h1 := hs 0 d env S rfl h0
    rw [forL_cons _ _ _ _ (hp d env S)]
    cases e : turnF g body d env S with
    | nx e1 S1 =>
      rw [e] at h1
      refine forL_ends hp P Q ds (k + 1) e1 S1 h1 (fun i d' env S hi hP => ?_) fun env S hP => hq env S ?_
      · have := hs (i + 1) d' env S (by simpa using hi) (by rw [show k + (i + 1) = k + 1 + i by omega]; exact hP)
        rw [show k + (i + 1) + 1 = k + 1 + i + 1 by omega] at this
        exact this
      · rw [show k + (d :: ds).length = k + 1 + ds.length by simp; omega]
        exact hP
    | bk a b => rw [e] at h1; exact h1
    | rt a b => rw [e] at h1; exact h1
    | ct a b => rw [e] at h1; exact h1
    | exc a b c => rw [e] at h1; exact h1
    | bad => rw [e] at h1; exact h1
theorem rng1 {m : ME} {env : Env} {S S' : Store} {j : Int} (h : m env S = .ok (.int j) S') (h1 : -1000000 ≤ j) (h2 : j ≤ 1000000) : iRange1 m env S = .ok (.items (rangeD 0 j.toNat)) S' := by
  have h3 : -((2:Int)^62) ≤ j ∧ j < 2^62 := by omega
  unfold iRange1 mArgs mArgs
  rw [h]
  simp only [Res.bind_ok]
  unfold itR1
  simp only
  rw [if_pos h3]
theorem rangeD_len (lo : Int) (n : Nat) : (rangeD lo n).length = n := by simp [rangeD]
theorem rangeD_get {lo : Int} {n i : Nat} {d : D} (h : (rangeD lo n)[i]? = some d) : i < n ∧ d = .int (lo + i) := by
  rw [rangeD_at] at h
  split at h
  · rename_i hi
    exact ⟨hi, by cases h; rfl⟩
  · cases h
theorem while_succ {c : MT} {body : MS} {n : Nat} {env : Env} {S : Store} : whileF c body (n + 1) env S = onR (c env S) env fun k S1 => if k = true then (match body env S1 with
      | .nx env2 S2 => whileF c body n env2 S2
      | .ct env2 S2 => whileF c body n env2 S2
      | .bk env2 S2 => .nx env2 S2
      | r => r) else .nx env S1 := rfl
end

/-! ### more steps -/
section
variable {env : Env} {S : Store} {a b c : ME} {m : ME} {ms ks : List ME} {i n : Nat} {d : D} {T : CT} {f : Nat} {g : Fn} {k : Int}
@[simp] theorem ev_fz : mFz m env S = gz S (m env S) := id rfl
@[simp] theorem ev_chain {f f' : D → D → Store → Res D} : mChain f f' a b c env S = (a env S).bind fun x S1 => (b env S1).bind fun y S2 => (f x y S2).bind fun r S3 => andV r (fun S => (c env S).bind fun z S4 => f' y z S4) S3 := by
  unfold mChain andV
  cases a env S with
  | ok x S1 =>
    simp only [Res.bind_ok] <;> (cases b env S1 with
    | ok y S2 =>
      simp only [Res.bind_ok] <;> (cases f x y S2 with
      | ok r S3 => cases r <;> rfl
      | exc _ _ => rfl
      | bad => rfl)
    | exc _ _ => rfl
    | bad => rfl)
  | exc _ _ => rfl
  | bad => rfl
@[simp] theorem ev_andf {r : Store → Res D} : andV (.bl false) r S = .ok (.bl false) S := id rfl
@[simp] theorem ev_andt {r : Store → Res D} : andV (.bl true) r S = r S := id rfl
@[simp] theorem ev_orf {r : Store → Res D} : orV (.bl false) r S = r S := id rfl
@[simp] theorem ev_ort {r : Store → Res D} : orV (.bl true) r S = .ok (.bl true) S := id rfl
@[simp] theorem ev_gset {v : D} : gSet a b v env S = onR (a env S) env fun d S1 => onR (b env S1) env fun i S2 => putIx d i v env S2 := id rfl
@[simp] theorem ev_newk {m N : Nat} {arr : List D → List D → List D} {mk : Fn} : mNewK T n m N arr mk ms ks env S = (mArgs ms env S).bind fun ds S1 => (mArgs ks env S1).bind fun es S2 => newKD T n m N arr mk ds es S2 := id rfl
@[simp] theorem ev_sup : mSup n g ms env S = (mVar 0 env S).bind fun o S1 => if isCls n o S1 = true then (mArgs ms env S1).bind fun vs S2 => g (o :: vs) S2 else .bad := id rfl
@[simp] theorem ev_zip : iZipM a b env S = (mArgs [a, b] env S).bind zipD := id rfl
@[simp] theorem ev_enum : iEnumM a env S = (mArgs [a] env S).bind enumD := id rfl
@[simp] theorem ev_yes : mYes env S = .ok true S := id rfl
@[simp] theorem ev_min {x y : Int} : minD [.int x, .int y] S = .ok (.int (if y < x then y else x)) S := id rfl
@[simp] theorem ev_max {x y : Int} : maxD [.int x, .int y] S = .ok (.int (if y > x then y else x)) S := id rfl
@[simp] theorem ev_isn1 {x : Int} : isND (.int x) .non S = .ok (.bl false) S := id rfl
@[simp] theorem ev_isn2 {x : List D} : isND (.tup x) .non S = .ok (.bl false) S := id rfl
@[simp] theorem ev_isn3 {x : List D} : isND (.ins n x) .non S = .ok (.bl false) S := id rfl
@[simp] theorem ev_isn4 {x : PySem.Str} : isND (.str x) .non S = .ok (.bl false) S := id rfl
@[simp] theorem ev_isn5 {x : List D} : isND (.rl x) .non S = .ok (.bl false) S := id rfl
@[simp] theorem ev_isnn1 {x : Int} : isnND (.int x) .non S = .ok (.bl true) S := id rfl
@[simp] theorem ev_isnn2 {x : List D} : isnND (.tup x) .non S = .ok (.bl true) S := id rfl
@[simp] theorem ev_isnn3 {x : List D} : isnND (.ins n x) .non S = .ok (.bl true) S := id rfl
@[simp] theorem ev_isnn4 {x : PySem.Str} : isnND (.str x) .non S = .ok (.bl true) S := id rfl
@[simp] theorem ev_isnn5 {x : List D} : isnND (.rl x) .non S = .ok (.bl true) S := id rfl
@[simp] theorem len_rl {xs : List D} : lenD [.rl xs] S = .ok (.int xs.length) S := id rfl
@[simp] theorem len_sc {xs : List D} : lenD [.sc xs] S = .ok (.int xs.length) S := id rfl
theorem len_str {z : PySem.Str} (h : z.length ≤ 1000000) : lenD [.str z] S = .ok (.int z.length) S := by
  show (if z.length ≤ sizeLine then _ else _) = _
  rw [if_pos (szK h)]
@[simp] theorem tuple_rl {xs : List D} : tupleD [.rl xs] S = .ok (.tup xs) S := id rfl
@[simp] theorem tuple_tup {xs : List D} : tupleD [.tup xs] S = .ok (.tup xs) S := id rfl
@[simp] theorem list_rl {xs : List D} : listD [.rl xs] S = .ok (.ref S.length) (S ++ [.lst xs]) := id rfl
@[simp] theorem list_sc {xs : List D} : listD [.sc xs] S = .ok (.ref S.length) (S ++ [.lst xs]) := id rfl
@[simp] theorem list_tup {xs : List D} : listD [.tup xs] S = .ok (.ref S.length) (S ++ [.lst xs]) := id rfl
@[simp] theorem ixr0 {xs : List D} {x : D} : ixD (.rl (x :: xs)) (.int 0) S = .ok x S := ix_rl (k := 0) rfl
@[simp] theorem ixr1 {xs : List D} {x y : D} : ixD (.rl (x :: y :: xs)) (.int 1) S = .ok y S := ix_rl (k := 1) rfl
@[simp] theorem ixr2 {xs : List D} {x y z : D} : ixD (.rl (x :: y :: z :: xs)) (.int 2) S = .ok z S := ix_rl (k := 2) rfl
@[simp] theorem ixr3 {xs : List D} {x y z u : D} : ixD (.rl (x :: y :: z :: u :: xs)) (.int 3) S = .ok u S := ix_rl (k := 3) rfl
@[simp] theorem slt {xs : List D} {lo hi : Option Int} : slD (.tup xs) lo hi S = .ok (.tup (cutD xs lo hi)) S := id rfl
@[simp] theorem slr {xs : List D} {lo hi : Option Int} : slD (.rl xs) lo hi S = .ok (.ref S.length) (S ++ [.lst (cutD xs lo hi)]) := id rfl
@[simp] theorem sls {xs : List D} {lo hi : Option Int} : slD (.sc xs) lo hi S = .ok (.ref S.length) (S ++ [.lst (cutD xs lo hi)]) := id rfl
theorem app_ref {n : Nat} {xs : List D} {x : D} (h : S[n]? = some (.lst xs)) (hl : xs.length < 1000000) : appD [.ref n, x] S = .ok .non (S.set n (.lst (xs ++ [x]))) := by
  have : xs.length < sizeLine := Nat.lt_of_lt_of_le hl (szK (Nat.le_refl _))
  simp [appD, h, this]
theorem ty_ref {n : Nat} {xs : List D} (h : S[n]? = some (.lst xs)) : tyD "list" (.ref n) S = true := by simp [tyD, h]
end
/-! ### walks over what is frozen -/
def Wf (w : Wk) (ds : List D) : Prop := (∀ T i, w.it T i = some ds[i]?) ∧ ∀ T, w.len T = ds.length
theorem wf_items (ds : List D) : Wf (.items ds) ds := ⟨fun _ _ => rfl, fun _ => rfl⟩
section
variable {g : MG} {body : MS}
theorem forG_eq {w : Wk} {ds : List D} (h : Wf w ds) : ∀ (k i : Nat) (env : Env) (S : Store), i + k = ds.length → forG g body w k i env S = forL g body (ds.drop i) env S
  | 0, i, env, S, hi => by
    unfold forG
    rw [h.1, List.getElem?_eq_none (by omega), List.drop_eq_nil_of_le (by omega)]
    rfl
  | k + 1, i, env, S, hi => by
    have hlt : i < ds.length := by omega
    unfold forG
    rw [h.1, List.getElem?_eq_getElem hlt, List.drop_eq_getElem_cons hlt]
    conv => rhs; unfold forL
    dsimp only
    cases g ds[i] env S with
    | nx e1 S1 =>
      dsimp only
      cases body e1 S1 with
      | nx e2 S2 => exact forG_eq h k (i + 1) e2 S2 (by omega)
      | ct e2 S2 => exact forG_eq h k (i + 1) e2 S2 (by omega)
      | _ => rfl
    | _ => rfl
theorem forW_of {w : Wk} {ds : List D} (h : Wf w ds) (hw : ∀ n, w ≠ .at_ n) (env : Env) (S : Store) : mForW g body w env S = forL g body ds env S := by
  unfold mForW
  cases w with
  | items xs =>
    have : xs = ds := by
      refine List.ext_getElem? fun i => ?_
      have := h.1 [] i
      simpa [Wk.it] using this
    subst this; rfl
  | at_ n => exact absurd rfl (hw n)
  | zip a b =>
    have := forG_eq (g := g) (body := body) h ds.length 0 env S (by simp)
    dsimp only
    rw [h.2, this, List.drop_zero]
  | enum a =>
    have := forG_eq (g := g) (body := body) h ds.length 0 env S (by simp)
    have e : a.len S = ds.length := h.2 S
    dsimp only
    rw [e, this, List.drop_zero]
theorem mFor_of {it : Env → Store → Res Wk} {w : Wk} {ds : List D} {env : Env} {S S' : Store} (h : it env S = .ok w S') (hf : Wf w ds) (hw : ∀ n, w ≠ .at_ n := by intro _ h; cases h) : mFor it g body env S = forL g body ds env S' := by
  unfold mFor
  rw [h, onR_ok]
  exact forW_of hf hw env S'
theorem forL_x {α : Type} (e : α → D) (hp : Plain g) (P : Nat → Env → Store → Prop) (xs : List α) {env : Env} {S : Store} (h0 : P 0 env S)
    (hs : ∀ j x env S, xs[j]? = some x → P j env S → ∃ env' S', turnF g body (e x) env S = .nx env' S' ∧ P (j + 1) env' S') : ∃ env' S', forL g body (xs.map e) env S = .nx env' S' ∧ P xs.length env' S' := by
  obtain ⟨env', S', h1, h2⟩ := forL_inv (body := body) hp P (xs.map e) 0 env S h0 fun i d env S hd hP => by
    rw [Nat.zero_add] at hP
    obtain ⟨x, hx, rfl⟩ : ∃ x, xs[i]? = some x ∧ e x = d := by
      rw [List.getElem?_map] at hd
      exact Option.map_eq_some_iff.mp hd
    rw [Nat.zero_add]
    exact hs i x env S hx hP
  exact ⟨env', S', h1, by simpa using h2⟩
theorem forL_xe {α : Type} (e : α → D) (hp : Plain g) (P : Nat → Env → Store → Prop) (Q : RS → Prop) (xs : List α) {env : Env} {S : Store} (h0 : P 0 env S)
    (hs : ∀ j x env S, xs[j]? = some x → P j env S → (match turnF g body (e x) env S with
      | .nx env' S' => P (j + 1) env' S'
      | .bk env' S' => Q (.nx env' S')
      | r => Q r)) (hq : ∀ env S, P xs.length env S → Q (.nx env S)) : Q (forL g body (xs.map e) env S) := by
  refine forL_ends (body := body) hp P Q (xs.map e) 0 env S h0 (fun i d env S hd hP => ?_) fun env S hP => hq env S (by simpa using hP)
  rw [Nat.zero_add] at hP
  obtain ⟨x, hx, rfl⟩ : ∃ x, xs[i]? = some x ∧ e x = d := by
    rw [List.getElem?_map] at hd
    exact Option.map_eq_some_iff.mp hd
  rw [Nat.zero_add]
  exact hs i x env S hx hP
end
theorem range_get {n j x : Nat} (h : (List.range n)[j]? = some x) : x = j ∧ j < n := by
  obtain ⟨h1, h2⟩ := List.getElem?_eq_some_iff.mp h
  rw [List.getElem_range] at h2
  exact ⟨h2.symm, by simpa using h1⟩
/-! ### comprehensions -/
def A2 {α β : Type} (R : α → β → Prop) (xs : List α) (bs : List β) : Prop := bs.length = xs.length ∧ ∀ (j : Nat) (x : α) (b : β), xs[j]? = some x → bs[j]? = some b → R x b
theorem A2.nil {α β : Type} {R : α → β → Prop} : A2 R [] ([] : List β) := ⟨rfl, fun j x b h => by simp at h⟩
/-! ### statement by statement -/
theorem run_nx {s1 s2 : MS} {env env' : Env} {S S' : Store} {r : RS} (h1 : s1 env S = .nx env' S') (h2 : s2 env' S' = r) : mSeq s1 s2 env S = r := by
  rw [ev_seq, h1]; exact h2
theorem run_rt {s1 s2 : MS} {env : Env} {S S' : Store} {d : D} (h1 : s1 env S = .rt d S') : mSeq s1 s2 env S = .rt d S' := by rw [ev_seq, h1]
theorem run_ex {s1 s2 : MS} {env env' : Env} {S S' : Store} {e : Ex} (h1 : s1 env S = .exc e env' S') : mSeq s1 s2 env S = .exc e env' S' := by rw [ev_seq, h1]
theorem fn_rt {n : Nat} {b : MS} {args : List D} {S S' : Store} {d : D} {R : Res D} (h : b (args.map some ++ List.replicate (n - args.length) none) S = .rt d S') (hg : gz S (.ok d S') = R) : mDef n b args S = R := by
  rw [ev_mdef, h]; exact hg
theorem fn_ex {n : Nat} {b : MS} {args : List D} {env : Env} {S S' : Store} {e : Ex} {R : Res D} (h : b (args.map some ++ List.replicate (n - args.length) none) S = .exc e env S') (hg : gz S (.exc e S') = R) : mDef n b args S = R := by
  rw [ev_mdef, h]; exact hg
theorem ifs_t {c : MT} {s1 s2 : MS} {env : Env} {S S' : Store} {r : RS} (h : c env S = .ok true S') (h2 : s1 env S' = r) : mIfS c s1 s2 env S = r := by
  rw [ev_ifs, h, onR_ok, if_pos rfl]; exact h2
theorem ifs_f {c : MT} {s1 s2 : MS} {env : Env} {S S' : Store} {r : RS} (h : c env S = .ok false S') (h2 : s2 env S' = r) : mIfS c s1 s2 env S = r := by
  rw [ev_ifs, h, onR_ok, if_neg (by decide)]; exact h2
theorem turn_nx {g : MG} {body : MS} {d : D} {env env1 env' : Env} {S S1 S' : Store} (h1 : g d env S = .nx env1 S1) (h2 : body env1 S1 = .nx env' S') : turnF g body d env S = .nx env' S' := by
  unfold turnF; rw [h1]; dsimp only; rw [h2]
theorem turn_rt {g : MG} {body : MS} {d v : D} {env env1 : Env} {S S1 S' : Store} (h1 : g d env S = .nx env1 S1) (h2 : body env1 S1 = .rt v S') : turnF g body d env S = .rt v S' := by
  unfold turnF; rw [h1]; dsimp only; rw [h2]
theorem set_last {S : Store} {o o' : O} : (S ++ [o]).set S.length o' = S ++ [o'] := by simp
theorem get_last {S : Store} {o : O} : (S ++ [o])[S.length]? = some o := by simp
/-! ### objects made -/
theorem gz_objF {S : Store} {c : Nat} {fs0 fs : List (Nat × D)} {U : Store} (h : belows (S.length + 1) (fs.map (·.2)) = true) : gz (S ++ [.obj c fs0]) (.ok .non (S ++ [.obj c fs] ++ U)) = .ok .non (S ++ [.obj c fs]) := by
  have hp : pfx (S ++ [O.obj c fs0]) (S ++ [.obj c fs] ++ U) := by
    refine ⟨by simp, fun i hi => ?_⟩
    rw [List.length_append, List.length_singleton] at hi
    by_cases h2 : i < S.length
    · left
      rw [List.append_assoc, List.getElem?_append_left h2, List.getElem?_append_left h2]
    · have : i = S.length := by omega
      subst this
      right
      exact ⟨.obj c fs, by simp, by simpa [okB] using h⟩
  rw [gz_val hp rfl]
  congr 1
  rw [show (S ++ [O.obj c fs0]).length = (S ++ [O.obj c fs]).length by simp, List.take_left]
theorem gz_objF0 {S : Store} {c : Nat} {fs0 fs : List (Nat × D)} (h : belows (S.length + 1) (fs.map (·.2)) = true) : gz (S ++ [.obj c fs0]) (.ok .non (S ++ [.obj c fs])) = .ok .non (S ++ [.obj c fs]) := by
  have := gz_objF (c := c) (fs0 := fs0) (U := []) h
  rwa [List.append_nil] at this
theorem newFin_of {T : CT} {c : Nat} {S : Store} {fs : List (Nat × D)} (hfl : fs.map (·.1) = T.tn.fl c) (hb : belows S.length (fs.map (·.2)) = true) : newFin T c S (.ok .non (S ++ [.obj c fs])) = .ok (.ins c (fs.map (·.2))) S := by
  unfold newFin
  dsimp only
  have e : (S ++ [O.obj c fs])[S.length]? = some (.obj c fs) := by simp
  rw [e]
  dsimp only
  rw [if_pos ⟨rfl, pfx_ext S _, hfl⟩, optL_below hb]
  simp
theorem new_of {T : CT} {c n : Nat} {dfl args : List D} {g : Fn} {S : Store} {fs : List (Nat × D)} (hm : T.mkr c = some (n, dfl, g)) (hn : args.length + 1 ≤ n ∧ n ≤ args.length + 1 + dfl.length) (hfl : fs.map (·.1) = T.tn.fl c) (hb : belows S.length (fs.map (·.2)) = true)
    (hrun : g (.ref S.length :: (args ++ dfl.drop (args.length + 1 + dfl.length - n))) (S ++ [.obj c []]) = .ok .non (S ++ [.obj c fs])) : newD T c args S = .ok (.ins c (fs.map (·.2))) S := by
  unfold newD
  rw [hm]
  dsimp only
  rw [if_pos hn, hrun, newFin_of hfl hb]
/-! ### texts in lists -/
theorem in_txt {neg : Bool} {c : Nat} {z : PySem.Str} {S : Store} : inD neg (.str ⟨#[c]⟩) (.str z) S = .ok (.bl (if neg then !decide (c ∈ z.cps.toList) else decide (c ∈ z.cps.toList))) S := rfl
theorem ix_txt {z : PySem.Str} {k : Nat} {c : Nat} {S : Store} (hl : z.length ≤ 1000000) (h : z.cps.toList[k]? = some c) : ixD (.str z) (.int k) S = .ok (.str ⟨#[c]⟩) S := by
  show (if z.length ≤ sizeLine then _ else _) = _
  rw [if_pos (szK hl), atI_nat, h]
end Bp


set_option Elab.async false
set_option linter.all false
set_option maxRecDepth 100000
set_option maxHeartbeats 1000000
/-! PF: Frac's methods by integers. -/
namespace Lw
open PySem L2 PyProof.Rows He Bp
abbrev Fr (n d : Int) : D := .ins n_Frac [.int n, .int d]
def mkF (n d : Int) : D := Fr (n.fdiv (sg n d)) (d.fdiv (sg n d))
@[simp] theorem below_mkF {k : Nat} {n d : Int} : below k (mkF n d) = true := id rfl
theorem t0a : T0.no n_Frac n_num = true := by decide +kernel
theorem t0b : T0.no n_Frac n_den = true := by decide +kernel
theorem t0c : T0.kn n_Frac = true := by decide +kernel
theorem t0d : n_num < T0.N := by decide +kernel
theorem t0e : n_den < T0.N := by decide +kernel
theorem nne : ¬ n_num = n_den := by decide
theorem lg0 : lg 0 = 0 := by decide
theorem init_eq {S : Store} {n d : Int} (hd : d ≠ 0) (h1 : (Nat.gcd n.natAbs d.natAbs).log2 < 9000) : m_F_init [.ref S.length, .int n, .int d] (S ++ [.obj n_Frac []]) = .ok .non (S ++ [.obj n_Frac [(n_num, .int (n.fdiv (sg n d))), (n_den, .int (d.fdiv (sg n d)))]]) := by
  have hg : Nat.gcd n.natAbs d.natAbs ≠ 0 := gcd_ne hd
  have hg2 : ¬ (n = 0 ∧ d = 0) := fun h => hd h.2
  have e : b_F_init (([D.ref S.length, .int n, .int d] : List D).map some ++ List.replicate (4 - 3) none) (S ++ [.obj n_Frac []]) = .nx [some (.ref S.length), some (.int n), some (.int d), some (.int (sg n d))] (S ++ [.obj n_Frac [(n_num, .int (n.fdiv (sg n d))), (n_den, .int (d.fdiv (sg n d)))]]) := by
    unfold b_F_init sg
    by_cases h : d < 0
    · simp [gcdD, setD, opD, Bp.intOp, h, hd, putD, h1, hg2, t0a, t0b, t0c, t0d, t0e, nne]
    · simp [gcdD, setD, opD, Bp.intOp, h, hd, putD, h1, hg2, t0a, t0b, t0c, t0d, t0e, nne]
  unfold m_F_init
  rw [ev_mdef, show (List.map some ([D.ref S.length, D.int n, D.int d] : List D) ++ List.replicate (4 - ([D.ref S.length, D.int n, D.int d] : List D).length) none) = (([D.ref S.length, .int n, .int d] : List D).map some ++ List.replicate (4 - 3) none) from rfl, e]
  exact gz_objF0 (c := n_Frac) (fs0 := []) rfl
theorem new_eq {T : CT} (hm : T.mkr n_Frac = some (3, [.int 0, .int 1], m_F_init)) (hf : T.tn.fl n_Frac = [n_num, n_den]) {S : Store} {n d : Int} (hd : d ≠ 0) (h1 : (Nat.gcd n.natAbs d.natAbs).log2 < 9000) : newD T n_Frac [.int n, .int d] S = .ok (mkF n d) S :=
  new_of hm (by simp) (fs := [(n_num, .int (n.fdiv (sg n d))), (n_den, .int (d.fdiv (sg n d)))]) hf.symm rfl (init_eq hd h1)
theorem new_one {T : CT} (hm : T.mkr n_Frac = some (3, [.int 0, .int 1], m_F_init)) (hf : T.tn.fl n_Frac = [n_num, n_den]) {S : Store} {n : Int} : newD T n_Frac [.int n] S = .ok (Fr n 1) S := by
  have := init_eq (S := S) (n := n) (d := 1) (by decide) (by simp; decide)
  have z := new_of (args := [.int n]) hm (by simp) (fs := [(n_num, .int (n.fdiv (sg n 1))), (n_den, .int ((1 : Int).fdiv (sg n 1)))]) hf.symm rfl this
  rw [z]
  simp [sg]
/-! ### the tables' facts at any level -/
structure Tab (T : CT) : Prop where
  nonum : T.no n_Frac n_num = true
  noden : T.no n_Frac n_den = true
  kn : T.kn n_Frac = true
  fl : T.tn.fl n_Frac = [n_num, n_den]
  mkr : T.mkr n_Frac = some (3, [.int 0, .int 1], m_F_init)
  i1 : T.isi (.c n_Frac) (.c n_Frac) = some true
  i2 : T.isi (.b "int") (.c n_Frac) = some false
  i3 : T.isi (.b "int") (.b "int") = some true
  i4 : T.isi (.c n_Frac) (.b "int") = some false
  i5 : T.isi (.c n_Frac) (.b "bool") = some false
  i6 : T.isi (.b "int") (.b "bool") = some false
  i7 : T.isi (.b "bool") (.b "int") = some true
  i8 : T.isi (.b "bool") (.b "bool") = some true

theorem tab1 : Tab T1 := ⟨by kernel_rfl, by kernel_rfl, by kernel_rfl, by kernel_rfl, by kernel_rfl, by kernel_rfl, by kernel_rfl, by kernel_rfl, by kernel_rfl, by kernel_rfl, by kernel_rfl, by kernel_rfl, by kernel_rfl⟩
theorem tab2 : Tab T2 := ⟨by kernel_rfl, by kernel_rfl, by kernel_rfl, by kernel_rfl, by kernel_rfl, by kernel_rfl, by kernel_rfl, by kernel_rfl, by kernel_rfl, by kernel_rfl, by kernel_rfl, by kernel_rfl, by kernel_rfl⟩
theorem tab3 : Tab T3 := ⟨by kernel_rfl, by kernel_rfl, by kernel_rfl, by kernel_rfl, by kernel_rfl, by kernel_rfl, by kernel_rfl, by kernel_rfl, by kernel_rfl, by kernel_rfl, by kernel_rfl, by kernel_rfl, by kernel_rfl⟩
theorem tab3b : Tab T3b := ⟨by kernel_rfl, by kernel_rfl, by kernel_rfl, by kernel_rfl, by kernel_rfl, by kernel_rfl, by kernel_rfl, by kernel_rfl, by kernel_rfl, by kernel_rfl, by kernel_rfl, by kernel_rfl, by kernel_rfl⟩
theorem tab5 : Tab T5 := ⟨by kernel_rfl, by kernel_rfl, by kernel_rfl, by kernel_rfl, by kernel_rfl, by kernel_rfl, by kernel_rfl, by kernel_rfl, by kernel_rfl, by kernel_rfl, by kernel_rfl, by kernel_rfl, by kernel_rfl⟩
theorem at_num {T : CT} (t : Tab T) {S : Store} {a b : Int} : attrD T n_num (Fr a b) S = .ok (.int a) S := by simp [attrD, t.nonum, t.kn, t.fl, List.idxOf?, List.findIdx?, List.findIdx?.go]
theorem at_den {T : CT} (t : Tab T) {S : Store} {a b : Int} : attrD T n_den (Fr a b) S = .ok (.int b) S := by simp [attrD, t.noden, t.kn, t.fl, nne, List.idxOf?, List.findIdx?, List.findIdx?.go]
theorem is_ff {T : CT} (t : Tab T) {S : Store} {a b : Int} : isiD T [Fr a b, .glob n_Frac] S = .ok (.bl true) S := by simp [isiD, tagD, clsTg, t.kn, t.i1]
theorem is_if {T : CT} (t : Tab T) {S : Store} {a : Int} : isiD T [.int a, .glob n_Frac] S = .ok (.bl false) S := by simp [isiD, tagD, clsTg, t.i2]
theorem is_ii {T : CT} (t : Tab T) {S : Store} {a : Int} : isiD T [.int a, .ty "int"] S = .ok (.bl true) S := by simp [isiD, tagD, clsTg, t.i3]
theorem is_fi {T : CT} (t : Tab T) {S : Store} {a b : Int} : isiD T [Fr a b, .ty "int"] S = .ok (.bl false) S := by simp [isiD, tagD, clsTg, t.kn, t.i4]
theorem is_ib {T : CT} (t : Tab T) {S : Store} {a : Int} : isiD T [.int a, .ty "bool"] S = .ok (.bl false) S := by simp [isiD, tagD, clsTg, t.i6]
theorem is_fp {T : CT} (t : Tab T) {S : Store} {a b : Int} : isiD T [Fr a b, .tup [.ty "int", .glob n_Frac]] S = .ok (.bl true) S := by simp [isiD, isiAny, tagD, clsTg, t.kn, t.i1, t.i4]
theorem is_ip {T : CT} (t : Tab T) {S : Store} {a : Int} : isiD T [.int a, .tup [.ty "int", .glob n_Frac]] S = .ok (.bl true) S := by simp [isiD, isiAny, tagD, clsTg, t.i2, t.i3]

theorem add_ff {S : Store} {a b c d : Int} (ha : lg a ≤ 4000) (hb : lg b ≤ 4000) (hc : lg c ≤ 4000) (hd : lg d ≤ 4000) (h0 : b * d ≠ 0) (h1 : lg (b * d) < 9000) : m_F_add [Fr a b, Fr c d] S = .ok (mkF (a * d + c * b) (b * d)) S := by
  have hn := new_eq (S := S) tab1.mkr tab1.fl (n := a * d + c * b) (d := b * d) h0 (Nat.lt_of_le_of_lt (lg_gcd h0 (Nat.le_refl _)) h1)
  have qab : lg a + lg b < 1000000 := by omega
  have qac : lg a + lg c < 1000000 := by omega
  have qad : lg a + lg d < 1000000 := by omega
  have qbc : lg b + lg c < 1000000 := by omega
  have qbd : lg b + lg d < 1000000 := by omega
  have qcb : lg c + lg b < 1000000 := by omega
  have qcd : lg c + lg d < 1000000 := by omega
  have qca : lg c + lg a < 1000000 := by omega
  unfold m_F_add b_F_add
  simp [at_num tab1, at_den tab1, is_ff tab1, is_if tab1, is_ii tab1, is_fi tab1, hn, opi_mul qab, opi_mul qac, opi_mul qad, opi_mul qbc, opi_mul qbd, opi_mul qcb, opi_mul qcd, opi_mul qca]
theorem sub_ff {S : Store} {a b c d : Int} (ha : lg a ≤ 4000) (hb : lg b ≤ 4000) (hc : lg c ≤ 4000) (hd : lg d ≤ 4000) (h0 : b * d ≠ 0) (h1 : lg (b * d) < 9000) : m_F_sub [Fr a b, Fr c d] S = .ok (mkF (a * d - c * b) (b * d)) S := by
  have hn := new_eq (S := S) tab1.mkr tab1.fl (n := a * d - c * b) (d := b * d) h0 (Nat.lt_of_le_of_lt (lg_gcd h0 (Nat.le_refl _)) h1)
  have qab : lg a + lg b < 1000000 := by omega
  have qac : lg a + lg c < 1000000 := by omega
  have qad : lg a + lg d < 1000000 := by omega
  have qbc : lg b + lg c < 1000000 := by omega
  have qbd : lg b + lg d < 1000000 := by omega
  have qcb : lg c + lg b < 1000000 := by omega
  have qcd : lg c + lg d < 1000000 := by omega
  have qca : lg c + lg a < 1000000 := by omega
  unfold m_F_sub b_F_sub
  simp [at_num tab1, at_den tab1, is_ff tab1, is_if tab1, is_ii tab1, is_fi tab1, hn, opi_mul qab, opi_mul qac, opi_mul qad, opi_mul qbc, opi_mul qbd, opi_mul qcb, opi_mul qcd, opi_mul qca]
theorem mul_ff {S : Store} {a b c d : Int} (ha : lg a ≤ 4000) (hb : lg b ≤ 4000) (hc : lg c ≤ 4000) (hd : lg d ≤ 4000) (h0 : b * d ≠ 0) (h1 : lg (b * d) < 9000) : m_F_mul [Fr a b, Fr c d] S = .ok (mkF (a * c) (b * d)) S := by
  have hn := new_eq (S := S) tab1.mkr tab1.fl (n := a * c) (d := b * d) h0 (Nat.lt_of_le_of_lt (lg_gcd h0 (Nat.le_refl _)) h1)
  have qab : lg a + lg b < 1000000 := by omega
  have qac : lg a + lg c < 1000000 := by omega
  have qad : lg a + lg d < 1000000 := by omega
  have qbc : lg b + lg c < 1000000 := by omega
  have qbd : lg b + lg d < 1000000 := by omega
  have qcb : lg c + lg b < 1000000 := by omega
  have qcd : lg c + lg d < 1000000 := by omega
  have qca : lg c + lg a < 1000000 := by omega
  unfold m_F_mul b_F_mul
  simp [at_num tab1, at_den tab1, is_ff tab1, is_if tab1, is_ii tab1, is_fi tab1, hn, opi_mul qab, opi_mul qac, opi_mul qad, opi_mul qbc, opi_mul qbd, opi_mul qcb, opi_mul qcd, opi_mul qca]
theorem add_fi {S : Store} {a b c d : Int} (ha : lg a ≤ 4000) (hb : lg b ≤ 4000) (hc : lg c ≤ 4000) (hd : lg d ≤ 4000) (h0 : b ≠ 0) (h1 : lg (b) < 9000) : m_F_add [Fr a b, .int c] S = .ok (mkF (a + c * b) (b)) S := by
  have hn := new_eq (S := S) tab1.mkr tab1.fl (n := a + c * b) (d := b) h0 (Nat.lt_of_le_of_lt (lg_gcd h0 (Nat.le_refl _)) h1)
  have qab : lg a + lg b < 1000000 := by omega
  have qac : lg a + lg c < 1000000 := by omega
  have qad : lg a + lg d < 1000000 := by omega
  have qbc : lg b + lg c < 1000000 := by omega
  have qbd : lg b + lg d < 1000000 := by omega
  have qcb : lg c + lg b < 1000000 := by omega
  have qcd : lg c + lg d < 1000000 := by omega
  have qca : lg c + lg a < 1000000 := by omega
  unfold m_F_add b_F_add
  simp [at_num tab1, at_den tab1, is_ff tab1, is_if tab1, is_ii tab1, is_fi tab1, hn, opi_mul qab, opi_mul qac, opi_mul qad, opi_mul qbc, opi_mul qbd, opi_mul qcb, opi_mul qcd, opi_mul qca]
theorem sub_fi {S : Store} {a b c d : Int} (ha : lg a ≤ 4000) (hb : lg b ≤ 4000) (hc : lg c ≤ 4000) (hd : lg d ≤ 4000) (h0 : b ≠ 0) (h1 : lg (b) < 9000) : m_F_sub [Fr a b, .int c] S = .ok (mkF (a - c * b) (b)) S := by
  have hn := new_eq (S := S) tab1.mkr tab1.fl (n := a - c * b) (d := b) h0 (Nat.lt_of_le_of_lt (lg_gcd h0 (Nat.le_refl _)) h1)
  have qab : lg a + lg b < 1000000 := by omega
  have qac : lg a + lg c < 1000000 := by omega
  have qad : lg a + lg d < 1000000 := by omega
  have qbc : lg b + lg c < 1000000 := by omega
  have qbd : lg b + lg d < 1000000 := by omega
  have qcb : lg c + lg b < 1000000 := by omega
  have qcd : lg c + lg d < 1000000 := by omega
  have qca : lg c + lg a < 1000000 := by omega
  unfold m_F_sub b_F_sub
  simp [at_num tab1, at_den tab1, is_ff tab1, is_if tab1, is_ii tab1, is_fi tab1, hn, opi_mul qab, opi_mul qac, opi_mul qad, opi_mul qbc, opi_mul qbd, opi_mul qcb, opi_mul qcd, opi_mul qca]
theorem mul_fi {S : Store} {a b c d : Int} (ha : lg a ≤ 4000) (hb : lg b ≤ 4000) (hc : lg c ≤ 4000) (hd : lg d ≤ 4000) (h0 : b ≠ 0) (h1 : lg (b) < 9000) : m_F_mul [Fr a b, .int c] S = .ok (mkF (a * c) (b)) S := by
  have hn := new_eq (S := S) tab1.mkr tab1.fl (n := a * c) (d := b) h0 (Nat.lt_of_le_of_lt (lg_gcd h0 (Nat.le_refl _)) h1)
  have qab : lg a + lg b < 1000000 := by omega
  have qac : lg a + lg c < 1000000 := by omega
  have qad : lg a + lg d < 1000000 := by omega
  have qbc : lg b + lg c < 1000000 := by omega
  have qbd : lg b + lg d < 1000000 := by omega
  have qcb : lg c + lg b < 1000000 := by omega
  have qcd : lg c + lg d < 1000000 := by omega
  have qca : lg c + lg a < 1000000 := by omega
  unfold m_F_mul b_F_mul
  simp [at_num tab1, at_den tab1, is_ff tab1, is_if tab1, is_ii tab1, is_fi tab1, hn, opi_mul qab, opi_mul qac, opi_mul qad, opi_mul qbc, opi_mul qbd, opi_mul qcb, opi_mul qcd, opi_mul qca]
theorem radd_fi {S : Store} {a b c d : Int} (ha : lg a ≤ 4000) (hb : lg b ≤ 4000) (hc : lg c ≤ 4000) (hd : lg d ≤ 4000) (h0 : b ≠ 0) (h1 : lg (b) < 9000) : m_F_radd [Fr a b, .int c] S = .ok (mkF (c * b + a) (b)) S := by
  have hn := new_eq (S := S) tab1.mkr tab1.fl (n := c * b + a) (d := b) h0 (Nat.lt_of_le_of_lt (lg_gcd h0 (Nat.le_refl _)) h1)
  have qab : lg a + lg b < 1000000 := by omega
  have qac : lg a + lg c < 1000000 := by omega
  have qad : lg a + lg d < 1000000 := by omega
  have qbc : lg b + lg c < 1000000 := by omega
  have qbd : lg b + lg d < 1000000 := by omega
  have qcb : lg c + lg b < 1000000 := by omega
  have qcd : lg c + lg d < 1000000 := by omega
  have qca : lg c + lg a < 1000000 := by omega
  unfold m_F_radd b_F_radd
  simp [at_num tab1, at_den tab1, is_ff tab1, is_if tab1, is_ii tab1, is_fi tab1, hn, opi_mul qab, opi_mul qac, opi_mul qad, opi_mul qbc, opi_mul qbd, opi_mul qcb, opi_mul qcd, opi_mul qca]
theorem rsub_fi {S : Store} {a b c d : Int} (ha : lg a ≤ 4000) (hb : lg b ≤ 4000) (hc : lg c ≤ 4000) (hd : lg d ≤ 4000) (h0 : b ≠ 0) (h1 : lg (b) < 9000) : m_F_rsub [Fr a b, .int c] S = .ok (mkF (c * b - a) (b)) S := by
  have hn := new_eq (S := S) tab1.mkr tab1.fl (n := c * b - a) (d := b) h0 (Nat.lt_of_le_of_lt (lg_gcd h0 (Nat.le_refl _)) h1)
  have qab : lg a + lg b < 1000000 := by omega
  have qac : lg a + lg c < 1000000 := by omega
  have qad : lg a + lg d < 1000000 := by omega
  have qbc : lg b + lg c < 1000000 := by omega
  have qbd : lg b + lg d < 1000000 := by omega
  have qcb : lg c + lg b < 1000000 := by omega
  have qcd : lg c + lg d < 1000000 := by omega
  have qca : lg c + lg a < 1000000 := by omega
  unfold m_F_rsub b_F_rsub
  simp [at_num tab1, at_den tab1, is_ff tab1, is_if tab1, is_ii tab1, is_fi tab1, hn, opi_mul qab, opi_mul qac, opi_mul qad, opi_mul qbc, opi_mul qbd, opi_mul qcb, opi_mul qcd, opi_mul qca]
theorem rmul_fi {S : Store} {a b c d : Int} (ha : lg a ≤ 4000) (hb : lg b ≤ 4000) (hc : lg c ≤ 4000) (hd : lg d ≤ 4000) (h0 : b ≠ 0) (h1 : lg (b) < 9000) : m_F_rmul [Fr a b, .int c] S = .ok (mkF (c * a) (b)) S := by
  have hn := new_eq (S := S) tab1.mkr tab1.fl (n := c * a) (d := b) h0 (Nat.lt_of_le_of_lt (lg_gcd h0 (Nat.le_refl _)) h1)
  have qab : lg a + lg b < 1000000 := by omega
  have qac : lg a + lg c < 1000000 := by omega
  have qad : lg a + lg d < 1000000 := by omega
  have qbc : lg b + lg c < 1000000 := by omega
  have qbd : lg b + lg d < 1000000 := by omega
  have qcb : lg c + lg b < 1000000 := by omega
  have qcd : lg c + lg d < 1000000 := by omega
  have qca : lg c + lg a < 1000000 := by omega
  unfold m_F_rmul b_F_rmul
  simp [at_num tab1, at_den tab1, is_ff tab1, is_if tab1, is_ii tab1, is_fi tab1, hn, opi_mul qab, opi_mul qac, opi_mul qad, opi_mul qbc, opi_mul qbd, opi_mul qcb, opi_mul qcd, opi_mul qca]
theorem neg_f {S : Store} {a b c d : Int} (ha : lg a ≤ 4000) (hb : lg b ≤ 4000) (hc : lg c ≤ 4000) (hd : lg d ≤ 4000) (h0 : b ≠ 0) (h1 : lg (b) < 9000) : m_F_neg [Fr a b] S = .ok (mkF (-a) (b)) S := by
  have hn := new_eq (S := S) tab1.mkr tab1.fl (n := -a) (d := b) h0 (Nat.lt_of_le_of_lt (lg_gcd h0 (Nat.le_refl _)) h1)
  have qab : lg a + lg b < 1000000 := by omega
  have qac : lg a + lg c < 1000000 := by omega
  have qad : lg a + lg d < 1000000 := by omega
  have qbc : lg b + lg c < 1000000 := by omega
  have qbd : lg b + lg d < 1000000 := by omega
  have qcb : lg c + lg b < 1000000 := by omega
  have qcd : lg c + lg d < 1000000 := by omega
  have qca : lg c + lg a < 1000000 := by omega
  unfold m_F_neg b_F_neg
  simp [at_num tab1, at_den tab1, is_ff tab1, is_if tab1, is_ii tab1, is_fi tab1, hn, opi_mul qab, opi_mul qac, opi_mul qad, opi_mul qbc, opi_mul qbd, opi_mul qcb, opi_mul qcd, opi_mul qca]
theorem abs_f {S : Store} {a b c d : Int} (ha : lg a ≤ 4000) (hb : lg b ≤ 4000) (hc : lg c ≤ 4000) (hd : lg d ≤ 4000) (h0 : b ≠ 0) (h1 : lg (b) < 9000) : m_F_abs [Fr a b] S = .ok (mkF (if a < 0 then -a else a) (b)) S := by
  have hn := new_eq (S := S) tab1.mkr tab1.fl (n := if a < 0 then -a else a) (d := b) h0 (Nat.lt_of_le_of_lt (lg_gcd h0 (Nat.le_refl _)) h1)
  have qab : lg a + lg b < 1000000 := by omega
  have qac : lg a + lg c < 1000000 := by omega
  have qad : lg a + lg d < 1000000 := by omega
  have qbc : lg b + lg c < 1000000 := by omega
  have qbd : lg b + lg d < 1000000 := by omega
  have qcb : lg c + lg b < 1000000 := by omega
  have qcd : lg c + lg d < 1000000 := by omega
  have qca : lg c + lg a < 1000000 := by omega
  unfold m_F_abs b_F_abs
  simp [at_num tab1, at_den tab1, is_ff tab1, is_if tab1, is_ii tab1, is_fi tab1, hn, opi_mul qab, opi_mul qac, opi_mul qad, opi_mul qbc, opi_mul qbd, opi_mul qcb, opi_mul qcd, opi_mul qca]
theorem exo1 : T1.exo n_DivisionByZero = true := by kernel_rfl
theorem floordiv_ff {S : Store} {a b c d : Int} (ha : lg a ≤ 4000) (hb : lg b ≤ 4000) (hc : lg c ≤ 4000) (hd : lg d ≤ 4000) (h0 : b * c ≠ 0) (h2 : lg (b * c) < 9000) : m_F_floordiv [Fr a b, Fr c d] S = .ok (.int ((a * d).fdiv (b * c))) S := by
  have qab : lg a + lg b < 1000000 := by omega
  have qac : lg a + lg c < 1000000 := by omega
  have qad : lg a + lg d < 1000000 := by omega
  have qbc : lg b + lg c < 1000000 := by omega
  have qbd : lg b + lg d < 1000000 := by omega
  have qcb : lg c + lg b < 1000000 := by omega
  have qcd : lg c + lg d < 1000000 := by omega
  have qca : lg c + lg a < 1000000 := by omega
  have h3 : b ≠ 0 := fun z => h0 (by rw [z, Int.zero_mul])
  have h4 : c ≠ 0 := fun z => h0 (by rw [z, Int.mul_zero])
  have hf := opi_fdiv (T := T1) (S := S) (i := a * d) h0 h2
  unfold m_F_floordiv b_F_floordiv
  simp [at_num tab1, at_den tab1, is_ff tab1, is_if tab1, is_ii tab1, is_fi tab1, opi_mul qab, opi_mul qac, opi_mul qad, opi_mul qbc, opi_mul qbd, opi_mul qcb, opi_mul qcd, opi_mul qca, h0, hf]
theorem floordiv_fi {S : Store} {a b c d : Int} (ha : lg a ≤ 4000) (hb : lg b ≤ 4000) (hc : lg c ≤ 4000) (hd : lg d ≤ 4000) (h0 : b * c ≠ 0) (h2 : lg (b * c) < 9000) : m_F_floordiv [Fr a b, .int c] S = .ok (.int ((a).fdiv (b * c))) S := by
  have qab : lg a + lg b < 1000000 := by omega
  have qac : lg a + lg c < 1000000 := by omega
  have qad : lg a + lg d < 1000000 := by omega
  have qbc : lg b + lg c < 1000000 := by omega
  have qbd : lg b + lg d < 1000000 := by omega
  have qcb : lg c + lg b < 1000000 := by omega
  have qcd : lg c + lg d < 1000000 := by omega
  have qca : lg c + lg a < 1000000 := by omega
  have h3 : b ≠ 0 := fun z => h0 (by rw [z, Int.zero_mul])
  have h4 : c ≠ 0 := fun z => h0 (by rw [z, Int.mul_zero])
  have hf := opi_fdiv (T := T1) (S := S) (i := a) h0 h2
  unfold m_F_floordiv b_F_floordiv
  simp [at_num tab1, at_den tab1, is_ff tab1, is_if tab1, is_ii tab1, is_fi tab1, opi_mul qab, opi_mul qac, opi_mul qad, opi_mul qbc, opi_mul qbd, opi_mul qcb, opi_mul qcd, opi_mul qca, h0, hf]
theorem floordiv_z {S : Store} {a b c d : Int} (ha : lg a ≤ 4000) (hb : lg b ≤ 4000) (hc : lg c ≤ 4000) (hd : lg d ≤ 4000) : m_F_floordiv [Fr a b, Fr 0 d] S = .exc ⟨n_DivisionByZero, [], []⟩ S := by
  have qab : lg a + lg b < 1000000 := by omega
  have qac : lg a + lg c < 1000000 := by omega
  have qad : lg a + lg d < 1000000 := by omega
  have qbc : lg b + lg c < 1000000 := by omega
  have qbd : lg b + lg d < 1000000 := by omega
  have qcb : lg c + lg b < 1000000 := by omega
  have qcd : lg c + lg d < 1000000 := by omega
  have qca : lg c + lg a < 1000000 := by omega
  have hz := opi_mul (T := T1) (S := S) (i := b) (j := 0) (by rw [lg0]; omega)
  rw [Int.mul_zero] at hz
  unfold m_F_floordiv b_F_floordiv
  simp [at_num tab1, at_den tab1, is_ff tab1, is_if tab1, is_ii tab1, is_fi tab1, opi_mul qab, opi_mul qac, opi_mul qad, opi_mul qbc, opi_mul qbd, opi_mul qcb, opi_mul qcd, opi_mul qca, hz, exo1]
theorem floordiv_zi {S : Store} {a b c d : Int} (ha : lg a ≤ 4000) (hb : lg b ≤ 4000) (hc : lg c ≤ 4000) (hd : lg d ≤ 4000) : m_F_floordiv [Fr a b, .int 0] S = .exc ⟨n_DivisionByZero, [], []⟩ S := by
  have qab : lg a + lg b < 1000000 := by omega
  have qac : lg a + lg c < 1000000 := by omega
  have qad : lg a + lg d < 1000000 := by omega
  have qbc : lg b + lg c < 1000000 := by omega
  have qbd : lg b + lg d < 1000000 := by omega
  have qcb : lg c + lg b < 1000000 := by omega
  have qcd : lg c + lg d < 1000000 := by omega
  have qca : lg c + lg a < 1000000 := by omega
  have hz := opi_mul (T := T1) (S := S) (i := b) (j := 0) (by rw [lg0]; omega)
  rw [Int.mul_zero] at hz
  unfold m_F_floordiv b_F_floordiv
  simp [at_num tab1, at_den tab1, is_ff tab1, is_if tab1, is_ii tab1, is_fi tab1, opi_mul qab, opi_mul qac, opi_mul qad, opi_mul qbc, opi_mul qbd, opi_mul qcb, opi_mul qcd, opi_mul qca, hz, exo1]
theorem lt_ff {S : Store} {a b c d : Int} (ha : lg a ≤ 4000) (hb : lg b ≤ 4000) (hc : lg c ≤ 4000) (hd : lg d ≤ 4000) : m_F_lt [Fr a b, Fr c d] S = .ok (.bl (decide (a * d < c * b))) S := by
  have qab : lg a + lg b < 1000000 := by omega
  have qac : lg a + lg c < 1000000 := by omega
  have qad : lg a + lg d < 1000000 := by omega
  have qbc : lg b + lg c < 1000000 := by omega
  have qbd : lg b + lg d < 1000000 := by omega
  have qcb : lg c + lg b < 1000000 := by omega
  have qcd : lg c + lg d < 1000000 := by omega
  have qca : lg c + lg a < 1000000 := by omega
  unfold m_F_lt b_F_lt
  simp [at_num tab1, at_den tab1, is_ff tab1, is_if tab1, is_ii tab1, is_fi tab1, opi_mul qab, opi_mul qac, opi_mul qad, opi_mul qbc, opi_mul qbd, opi_mul qcb, opi_mul qcd, opi_mul qca]
theorem lt_fi {S : Store} {a b c d : Int} (ha : lg a ≤ 4000) (hb : lg b ≤ 4000) (hc : lg c ≤ 4000) (hd : lg d ≤ 4000) : m_F_lt [Fr a b, .int c] S = .ok (.bl (decide (a < c * b))) S := by
  have qab : lg a + lg b < 1000000 := by omega
  have qac : lg a + lg c < 1000000 := by omega
  have qad : lg a + lg d < 1000000 := by omega
  have qbc : lg b + lg c < 1000000 := by omega
  have qbd : lg b + lg d < 1000000 := by omega
  have qcb : lg c + lg b < 1000000 := by omega
  have qcd : lg c + lg d < 1000000 := by omega
  have qca : lg c + lg a < 1000000 := by omega
  unfold m_F_lt b_F_lt
  simp [at_num tab1, at_den tab1, is_ff tab1, is_if tab1, is_ii tab1, is_fi tab1, opi_mul qab, opi_mul qac, opi_mul qad, opi_mul qbc, opi_mul qbd, opi_mul qcb, opi_mul qcd, opi_mul qca]
theorem le_ff {S : Store} {a b c d : Int} (ha : lg a ≤ 4000) (hb : lg b ≤ 4000) (hc : lg c ≤ 4000) (hd : lg d ≤ 4000) : m_F_le [Fr a b, Fr c d] S = .ok (.bl (decide (a * d ≤ c * b))) S := by
  have qab : lg a + lg b < 1000000 := by omega
  have qac : lg a + lg c < 1000000 := by omega
  have qad : lg a + lg d < 1000000 := by omega
  have qbc : lg b + lg c < 1000000 := by omega
  have qbd : lg b + lg d < 1000000 := by omega
  have qcb : lg c + lg b < 1000000 := by omega
  have qcd : lg c + lg d < 1000000 := by omega
  have qca : lg c + lg a < 1000000 := by omega
  unfold m_F_le b_F_le
  simp [at_num tab1, at_den tab1, is_ff tab1, is_if tab1, is_ii tab1, is_fi tab1, opi_mul qab, opi_mul qac, opi_mul qad, opi_mul qbc, opi_mul qbd, opi_mul qcb, opi_mul qcd, opi_mul qca]
theorem le_fi {S : Store} {a b c d : Int} (ha : lg a ≤ 4000) (hb : lg b ≤ 4000) (hc : lg c ≤ 4000) (hd : lg d ≤ 4000) : m_F_le [Fr a b, .int c] S = .ok (.bl (decide (a ≤ c * b))) S := by
  have qab : lg a + lg b < 1000000 := by omega
  have qac : lg a + lg c < 1000000 := by omega
  have qad : lg a + lg d < 1000000 := by omega
  have qbc : lg b + lg c < 1000000 := by omega
  have qbd : lg b + lg d < 1000000 := by omega
  have qcb : lg c + lg b < 1000000 := by omega
  have qcd : lg c + lg d < 1000000 := by omega
  have qca : lg c + lg a < 1000000 := by omega
  unfold m_F_le b_F_le
  simp [at_num tab1, at_den tab1, is_ff tab1, is_if tab1, is_ii tab1, is_fi tab1, opi_mul qab, opi_mul qac, opi_mul qad, opi_mul qbc, opi_mul qbd, opi_mul qcb, opi_mul qcd, opi_mul qca]
theorem gt_ff {S : Store} {a b c d : Int} (ha : lg a ≤ 4000) (hb : lg b ≤ 4000) (hc : lg c ≤ 4000) (hd : lg d ≤ 4000) : m_F_gt [Fr a b, Fr c d] S = .ok (.bl (decide (c * b < a * d))) S := by
  have qab : lg a + lg b < 1000000 := by omega
  have qac : lg a + lg c < 1000000 := by omega
  have qad : lg a + lg d < 1000000 := by omega
  have qbc : lg b + lg c < 1000000 := by omega
  have qbd : lg b + lg d < 1000000 := by omega
  have qcb : lg c + lg b < 1000000 := by omega
  have qcd : lg c + lg d < 1000000 := by omega
  have qca : lg c + lg a < 1000000 := by omega
  unfold m_F_gt b_F_gt
  simp [at_num tab1, at_den tab1, is_ff tab1, is_if tab1, is_ii tab1, is_fi tab1, opi_mul qab, opi_mul qac, opi_mul qad, opi_mul qbc, opi_mul qbd, opi_mul qcb, opi_mul qcd, opi_mul qca]
theorem gt_fi {S : Store} {a b c d : Int} (ha : lg a ≤ 4000) (hb : lg b ≤ 4000) (hc : lg c ≤ 4000) (hd : lg d ≤ 4000) : m_F_gt [Fr a b, .int c] S = .ok (.bl (decide (c * b < a))) S := by
  have qab : lg a + lg b < 1000000 := by omega
  have qac : lg a + lg c < 1000000 := by omega
  have qad : lg a + lg d < 1000000 := by omega
  have qbc : lg b + lg c < 1000000 := by omega
  have qbd : lg b + lg d < 1000000 := by omega
  have qcb : lg c + lg b < 1000000 := by omega
  have qcd : lg c + lg d < 1000000 := by omega
  have qca : lg c + lg a < 1000000 := by omega
  unfold m_F_gt b_F_gt
  simp [at_num tab1, at_den tab1, is_ff tab1, is_if tab1, is_ii tab1, is_fi tab1, opi_mul qab, opi_mul qac, opi_mul qad, opi_mul qbc, opi_mul qbd, opi_mul qcb, opi_mul qcd, opi_mul qca]
theorem ge_ff {S : Store} {a b c d : Int} (ha : lg a ≤ 4000) (hb : lg b ≤ 4000) (hc : lg c ≤ 4000) (hd : lg d ≤ 4000) : m_F_ge [Fr a b, Fr c d] S = .ok (.bl (decide (c * b ≤ a * d))) S := by
  have qab : lg a + lg b < 1000000 := by omega
  have qac : lg a + lg c < 1000000 := by omega
  have qad : lg a + lg d < 1000000 := by omega
  have qbc : lg b + lg c < 1000000 := by omega
  have qbd : lg b + lg d < 1000000 := by omega
  have qcb : lg c + lg b < 1000000 := by omega
  have qcd : lg c + lg d < 1000000 := by omega
  have qca : lg c + lg a < 1000000 := by omega
  unfold m_F_ge b_F_ge
  simp [at_num tab1, at_den tab1, is_ff tab1, is_if tab1, is_ii tab1, is_fi tab1, opi_mul qab, opi_mul qac, opi_mul qad, opi_mul qbc, opi_mul qbd, opi_mul qcb, opi_mul qcd, opi_mul qca]
theorem ge_fi {S : Store} {a b c d : Int} (ha : lg a ≤ 4000) (hb : lg b ≤ 4000) (hc : lg c ≤ 4000) (hd : lg d ≤ 4000) : m_F_ge [Fr a b, .int c] S = .ok (.bl (decide (c * b ≤ a))) S := by
  have qab : lg a + lg b < 1000000 := by omega
  have qac : lg a + lg c < 1000000 := by omega
  have qad : lg a + lg d < 1000000 := by omega
  have qbc : lg b + lg c < 1000000 := by omega
  have qbd : lg b + lg d < 1000000 := by omega
  have qcb : lg c + lg b < 1000000 := by omega
  have qcd : lg c + lg d < 1000000 := by omega
  have qca : lg c + lg a < 1000000 := by omega
  unfold m_F_ge b_F_ge
  simp [at_num tab1, at_den tab1, is_ff tab1, is_if tab1, is_ii tab1, is_fi tab1, opi_mul qab, opi_mul qac, opi_mul qad, opi_mul qbc, opi_mul qbd, opi_mul qcb, opi_mul qcd, opi_mul qca]
theorem eq_ff {S : Store} {a b c d : Int} (ha : lg a ≤ 4000) (hb : lg b ≤ 4000) (hc : lg c ≤ 4000) (hd : lg d ≤ 4000) : m_F_eq [Fr a b, Fr c d] S = .ok (.bl (decide (a = c) && decide (b = d))) S := by
  unfold m_F_eq b_F_eq
  by_cases h : a = c
  all_goals simp [h, at_num tab1, at_den tab1, is_ff tab1, is_if tab1, is_ii tab1, is_fi tab1]
theorem eq_fi {S : Store} {a b c d : Int} (ha : lg a ≤ 4000) (hb : lg b ≤ 4000) (hc : lg c ≤ 4000) (hd : lg d ≤ 4000) : m_F_eq [Fr a b, .int c] S = .ok (.bl (decide (b = 1) && decide (a = c))) S := by
  unfold m_F_eq b_F_eq
  by_cases h : b = 1
  all_goals simp [h, at_num tab1, at_den tab1, is_ff tab1, is_if tab1, is_ii tab1, is_fi tab1]
theorem bool_f {S : Store} {a b c d : Int} (ha : lg a ≤ 4000) (hb : lg b ≤ 4000) (hc : lg c ≤ 4000) (hd : lg d ≤ 4000) : m_F_bool [Fr a b] S = .ok (.bl (!decide (a = 0))) S := by
  unfold m_F_bool b_F_bool
  simp [at_num tab1, at_den tab1, is_ff tab1, is_if tab1, is_ii tab1, is_fi tab1, boolD]
structure OpT (T : CT) : Prop where
  m1 : T.meth n_Frac 1 = some (2, m_F_add)
  m2 : T.meth n_Frac 2 = some (2, m_F_radd)
  m3 : T.meth n_Frac 3 = some (2, m_F_sub)
  m4 : T.meth n_Frac 4 = some (2, m_F_rsub)
  m5 : T.meth n_Frac 5 = some (2, m_F_mul)
  m6 : T.meth n_Frac 6 = some (2, m_F_rmul)
  m7 : T.meth n_Frac 7 = some (2, m_F_floordiv)
  m13 : T.meth n_Frac 13 = some (2, m_F_eq)
  m15 : T.meth n_Frac 15 = some (2, m_F_lt)
  m16 : T.meth n_Frac 16 = some (2, m_F_le)
  m17 : T.meth n_Frac 17 = some (2, m_F_gt)
  m18 : T.meth n_Frac 18 = some (2, m_F_ge)
  m19 : T.meth n_Frac 19 = some (1, m_F_neg)
  m20 : T.meth n_Frac 20 = some (1, m_F_abs)
  m21 : T.meth n_Frac 21 = some (1, m_F_bool)
structure OpT5 (T : CT) : Prop extends OpT T where
  m8 : T.meth n_Frac 8 = some (2, m_F_rfloordiv)
  m9 : T.meth n_Frac 9 = some (2, m_F_mod)
  m10 : T.meth n_Frac 10 = some (2, m_F_rmod)
  m11 : T.meth n_Frac 11 = some (2, m_F_pow)
  n12 : T.no n_Frac 12 = true
  one : T.one n_Frac = true
  inp : T.inp n_Frac = true
  kn : T.kn n_Frac = true
  ni : T.ni n_Frac = true
theorem op2 : OpT T2 := ⟨rfl, rfl, rfl, rfl, rfl, rfl, rfl, rfl, rfl, rfl, rfl, rfl, rfl, rfl, rfl⟩
theorem op3 : OpT T3 := ⟨rfl, rfl, rfl, rfl, rfl, rfl, rfl, rfl, rfl, rfl, rfl, rfl, rfl, rfl, rfl⟩
theorem op5 : OpT5 T5 := ⟨⟨rfl, rfl, rfl, rfl, rfl, rfl, rfl, rfl, rfl, rfl, rfl, rfl, rfl, rfl, rfl⟩, rfl, rfl, rfl, rfl, by kernel_rfl, by kernel_rfl, by kernel_rfl, by kernel_rfl, by kernel_rfl⟩
theorem oadd_ff {T : CT} (t : OpT T) {S : Store} {a b c d : Int} : opD T .Add (Fr a b) (Fr c d) S = m_F_add [Fr a b, Fr c d] S := by simp [opD, dop, dund, t.m1]
theorem oadd_fi {T : CT} (t : OpT T) {S : Store} {a b c : Int} : opD T .Add (Fr a b) (.int c) S = m_F_add [Fr a b, .int c] S := by simp [opD, dop, rop, dund, t.m1, t.m2]
theorem oadd_if {T : CT} (t : OpT T) {S : Store} {a b c : Int} : opD T .Add (.int c) (Fr a b) S = m_F_radd [Fr a b, .int c] S := by simp [opD, dop, rop, dund, t.m1, t.m2]
theorem osub_ff {T : CT} (t : OpT T) {S : Store} {a b c d : Int} : opD T .Sub (Fr a b) (Fr c d) S = m_F_sub [Fr a b, Fr c d] S := by simp [opD, dop, dund, t.m3]
theorem osub_fi {T : CT} (t : OpT T) {S : Store} {a b c : Int} : opD T .Sub (Fr a b) (.int c) S = m_F_sub [Fr a b, .int c] S := by simp [opD, dop, rop, dund, t.m3, t.m4]
theorem osub_if {T : CT} (t : OpT T) {S : Store} {a b c : Int} : opD T .Sub (.int c) (Fr a b) S = m_F_rsub [Fr a b, .int c] S := by simp [opD, dop, rop, dund, t.m3, t.m4]
theorem omul_ff {T : CT} (t : OpT T) {S : Store} {a b c d : Int} : opD T .Mult (Fr a b) (Fr c d) S = m_F_mul [Fr a b, Fr c d] S := by simp [opD, dop, dund, t.m5]
theorem omul_fi {T : CT} (t : OpT T) {S : Store} {a b c : Int} : opD T .Mult (Fr a b) (.int c) S = m_F_mul [Fr a b, .int c] S := by simp [opD, dop, rop, dund, t.m5, t.m6]
theorem omul_if {T : CT} (t : OpT T) {S : Store} {a b c : Int} : opD T .Mult (.int c) (Fr a b) S = m_F_rmul [Fr a b, .int c] S := by simp [opD, dop, rop, dund, t.m5, t.m6]
theorem ofloordiv_ff {T : CT} (t : OpT T) {S : Store} {a b c d : Int} : opD T .FloorDiv (Fr a b) (Fr c d) S = m_F_floordiv [Fr a b, Fr c d] S := by simp [opD, dop, dund, t.m7]
end Lw


set_option Elab.async false
set_option linter.all false
set_option maxRecDepth 100000
set_option maxHeartbeats 1000000
/-! QF: the operators of Frac by rationals. -/
namespace Lw
open PySem L2 PyProof.Rows He Bp
namespace F
abbrev fQ (q : Rat) : D := Fr q.num q.den
theorem mkF_q {n d : Int} (hd : d ≠ 0) : mkF n d = fQ (Rat.divInt n d) := by unfold mkF; rw [sg_num hd, sg_den hd]
theorem numz {q : Rat} (h : q ≠ 0) : q.num ≠ 0 := fun z => h (Rat.num_eq_zero.mp z)
section
variable {S : Store} {p q : Rat} {i : Int}
theorem add_qq (hp : Sz 4000 p) (hq : Sz 4000 q) : m_F_add [fQ p, fQ q] S = .ok (fQ (p + q)) S := by
  have h0 := Int.mul_ne_zero (den_ne p) (den_ne q)
  rw [add_ff hp.1 hp.2 hq.1 hq.2 h0 (by have := lg_mul hp.2 hq.2; omega), mkF_q h0, q_add]
theorem sub_qq (hp : Sz 4000 p) (hq : Sz 4000 q) : m_F_sub [fQ p, fQ q] S = .ok (fQ (p - q)) S := by
  have h0 := Int.mul_ne_zero (den_ne p) (den_ne q)
  rw [sub_ff hp.1 hp.2 hq.1 hq.2 h0 (by have := lg_mul hp.2 hq.2; omega), mkF_q h0, q_sub]
theorem mul_qq (hp : Sz 4000 p) (hq : Sz 4000 q) : m_F_mul [fQ p, fQ q] S = .ok (fQ (p * q)) S := by
  have h0 := Int.mul_ne_zero (den_ne p) (den_ne q)
  rw [mul_ff hp.1 hp.2 hq.1 hq.2 h0 (by have := lg_mul hp.2 hq.2; omega), mkF_q h0, q_mul]
theorem i_add (p : Rat) (i : Int) : Rat.divInt (p.num + i * p.den) p.den = p + (i : Rat) := by rw [← q_add]; simp
theorem i_sub (p : Rat) (i : Int) : Rat.divInt (p.num - i * p.den) p.den = p - (i : Rat) := by rw [← q_sub]; simp
theorem i_radd (p : Rat) (i : Int) : Rat.divInt (i * p.den + p.num) p.den = (i : Rat) + p := by rw [← q_add]; simp
theorem i_rsub (p : Rat) (i : Int) : Rat.divInt (i * p.den - p.num) p.den = (i : Rat) - p := by rw [← q_sub]; simp
theorem i_mul (p : Rat) (i : Int) : Rat.divInt (p.num * i) p.den = p * (i : Rat) := by rw [← q_mul]; simp
theorem i_rmul (p : Rat) (i : Int) : Rat.divInt (i * p.num) p.den = (i : Rat) * p := by rw [← q_mul]; simp
theorem i_div (p : Rat) (i : Int) : Rat.divInt p.num (p.den * i) = p / (i : Rat) := by rw [← q_div]; simp
theorem add_qi (hp : Sz 4000 p) (hi : lg i ≤ 4000) : m_F_add [fQ p, .int i] S = .ok (fQ (p + i)) S := by
  rw [add_fi (d := 0) hp.1 hp.2 hi (by decide) (den_ne p) (by have := hp.2; omega), mkF_q (den_ne p), i_add]
theorem sub_qi (hp : Sz 4000 p) (hi : lg i ≤ 4000) : m_F_sub [fQ p, .int i] S = .ok (fQ (p - i)) S := by
  rw [sub_fi (d := 0) hp.1 hp.2 hi (by decide) (den_ne p) (by have := hp.2; omega), mkF_q (den_ne p), i_sub]
theorem mul_qi (hp : Sz 4000 p) (hi : lg i ≤ 4000) : m_F_mul [fQ p, .int i] S = .ok (fQ (p * i)) S := by
  rw [mul_fi (d := 0) hp.1 hp.2 hi (by decide) (den_ne p) (by have := hp.2; omega), mkF_q (den_ne p), i_mul]
theorem radd_qi (hp : Sz 4000 p) (hi : lg i ≤ 4000) : m_F_radd [fQ p, .int i] S = .ok (fQ (i + p)) S := by
  rw [radd_fi (d := 0) hp.1 hp.2 hi (by decide) (den_ne p) (by have := hp.2; omega), mkF_q (den_ne p), i_radd]
theorem rsub_qi (hp : Sz 4000 p) (hi : lg i ≤ 4000) : m_F_rsub [fQ p, .int i] S = .ok (fQ (i - p)) S := by
  rw [rsub_fi (d := 0) hp.1 hp.2 hi (by decide) (den_ne p) (by have := hp.2; omega), mkF_q (den_ne p), i_rsub]
theorem rmul_qi (hp : Sz 4000 p) (hi : lg i ≤ 4000) : m_F_rmul [fQ p, .int i] S = .ok (fQ (i * p)) S := by
  rw [rmul_fi (d := 0) hp.1 hp.2 hi (by decide) (den_ne p) (by have := hp.2; omega), mkF_q (den_ne p), i_rmul]
theorem neg_q (hp : Sz 4000 p) : m_F_neg [fQ p] S = .ok (fQ (-p)) S := by
  rw [neg_f (c := 0) (d := 0) hp.1 hp.2 (by decide) (by decide) (den_ne p) (by have := hp.2; omega), mkF_q (den_ne p)]
  rw [show -p.num = (-p).num from rfl, show (p.den : Int) = ((-p).den : Int) from rfl, Rat.num_divInt_den]
theorem abs_q (hp : Sz 4000 p) : m_F_abs [fQ p] S = .ok (fQ p.abs) S := by
  rw [abs_f (c := 0) (d := 0) hp.1 hp.2 (by decide) (by decide) (den_ne p) (by have := hp.2; omega), mkF_q (den_ne p)]
  rw [← (q_absnum p).1, ← (q_absnum p).2, Rat.num_divInt_den]
theorem lt_qq (hp : Sz 4000 p) (hq : Sz 4000 q) : m_F_lt [fQ p, fQ q] S = .ok (.bl (decide (p < q))) S := by
  rw [lt_ff hp.1 hp.2 hq.1 hq.2]; simp only [q_lt]
theorem le_qq (hp : Sz 4000 p) (hq : Sz 4000 q) : m_F_le [fQ p, fQ q] S = .ok (.bl (decide (p ≤ q))) S := by
  rw [le_ff hp.1 hp.2 hq.1 hq.2]; simp only [q_le]
theorem gt_qq (hp : Sz 4000 p) (hq : Sz 4000 q) : m_F_gt [fQ p, fQ q] S = .ok (.bl (decide (q < p))) S := by
  rw [gt_ff hp.1 hp.2 hq.1 hq.2]; simp only [q_lt]
theorem ge_qq (hp : Sz 4000 p) (hq : Sz 4000 q) : m_F_ge [fQ p, fQ q] S = .ok (.bl (decide (q ≤ p))) S := by
  rw [ge_ff hp.1 hp.2 hq.1 hq.2]; simp only [q_le]
theorem i_lt (p : Rat) (i : Int) : (p.num < i * p.den) ↔ p < (i : Rat) := by rw [← q_lt]; simp
theorem i_le (p : Rat) (i : Int) : (p.num ≤ i * p.den) ↔ p ≤ (i : Rat) := by rw [← q_le]; simp
theorem i_gt (p : Rat) (i : Int) : (i * p.den < p.num) ↔ (i : Rat) < p := by rw [← q_lt]; simp
theorem i_ge (p : Rat) (i : Int) : (i * p.den ≤ p.num) ↔ (i : Rat) ≤ p := by rw [← q_le]; simp
theorem lt_qi (hp : Sz 4000 p) (hi : lg i ≤ 4000) : m_F_lt [fQ p, .int i] S = .ok (.bl (decide (p < i))) S := by
  rw [lt_fi (d := 0) hp.1 hp.2 hi (by decide)]; simp only [i_lt]
theorem le_qi (hp : Sz 4000 p) (hi : lg i ≤ 4000) : m_F_le [fQ p, .int i] S = .ok (.bl (decide (p ≤ i))) S := by
  rw [le_fi (d := 0) hp.1 hp.2 hi (by decide)]; simp only [i_le]
theorem gt_qi (hp : Sz 4000 p) (hi : lg i ≤ 4000) : m_F_gt [fQ p, .int i] S = .ok (.bl (decide ((i : Rat) < p))) S := by
  rw [gt_fi (d := 0) hp.1 hp.2 hi (by decide)]; simp only [i_gt]
theorem ge_qi (hp : Sz 4000 p) (hi : lg i ≤ 4000) : m_F_ge [fQ p, .int i] S = .ok (.bl (decide ((i : Rat) ≤ p))) S := by
  rw [ge_fi (d := 0) hp.1 hp.2 hi (by decide)]; simp only [i_ge]
theorem bl_and {a b : Prop} [Decidable a] [Decidable b] {c : Prop} [Decidable c] (h : (a ∧ b) ↔ c) : (decide a && decide b) = decide c := by
  rw [← Bool.decide_and]; exact decide_eq_decide.mpr h
theorem eq_qq (hp : Sz 4000 p) (hq : Sz 4000 q) : m_F_eq [fQ p, fQ q] S = .ok (.bl (decide (p = q))) S := by
  rw [eq_ff hp.1 hp.2 hq.1 hq.2, bl_and (q_ext p q)]
theorem i_eq (p : Rat) (i : Int) : ((p.den : Int) = 1 ∧ p.num = i) ↔ p = (i : Rat) := by
  rw [← q_ext]
  simp
  exact ⟨fun h => ⟨h.2, h.1⟩, fun h => ⟨h.2, h.1⟩⟩
theorem eq_qi (hp : Sz 4000 p) (hi : lg i ≤ 4000) : m_F_eq [fQ p, .int i] S = .ok (.bl (decide (p = (i : Rat)))) S := by
  rw [eq_fi (d := 0) hp.1 hp.2 hi (by decide), bl_and (i_eq p i)]
theorem bool_q (hp : Sz 4000 p) : m_F_bool [fQ p] S = .ok (.bl (!decide (p = 0))) S := by
  rw [bool_f (c := 0) (d := 0) hp.1 hp.2 (by decide) (by decide)]; simp only [Rat.num_eq_zero]
theorem floordiv_qq (hp : Sz 4000 p) (hq : Sz 4000 q) (hz : q ≠ 0) : m_F_floordiv [fQ p, fQ q] S = .ok (.int (p / q).floor) S := by
  have h0 := Int.mul_ne_zero (den_ne p) (numz hz)
  rw [floordiv_ff hp.1 hp.2 hq.1 hq.2 h0 (by have := lg_mul hp.2 hq.1; omega), q_floordiv p q hz]
theorem floordiv_qi (hp : Sz 4000 p) (hi : lg i ≤ 4000) (hz : i ≠ 0) : m_F_floordiv [fQ p, .int i] S = .ok (.int (p / (i : Rat)).floor) S := by
  have h0 := Int.mul_ne_zero (den_ne p) hz
  rw [floordiv_fi (d := 0) hp.1 hp.2 hi (by decide) h0 (by have := lg_mul hp.2 hi; omega), ← i_div, floor_divInt' h0]
theorem floordiv_q0 (hp : Sz 4000 p) : m_F_floordiv [fQ p, fQ 0] S = .exc ⟨n_DivisionByZero, [], []⟩ S := floordiv_z (d := 1) (c := 0) hp.1 hp.2 (by decide) (by decide)
theorem floordiv_qi0 (hp : Sz 4000 p) : m_F_floordiv [fQ p, .int 0] S = .exc ⟨n_DivisionByZero, [], []⟩ S := floordiv_zi (d := 1) (c := 0) hp.1 hp.2 (by decide) (by decide)
theorem fdiv_abs (n d : Int) (hd : d ≠ 0) : (n.fdiv d).natAbs ≤ n.natAbs := by
  have h := Int.natAbs_fdiv_le_natAbs n d
  exact h
theorem lg_fd {n d : Int} {a : Nat} (hd : d ≠ 0) (h : lg n ≤ a) : lg (n.fdiv d) ≤ a := Nat.le_trans (log2_mono (fdiv_abs n d hd)) h
theorem lg_floordiv {a b : Nat} (hp : Sz a p) (hq : Sz b q) (hz : q ≠ 0) : lg (p / q).floor ≤ a + b + 1 := by
  rw [← q_floordiv p q hz]
  exact lg_fd (Int.mul_ne_zero (den_ne p) (numz hz)) (lg_mul hp.1 hq.2)

end
section
variable {T : CT} {S : Store} {p q : Rat} {i j : Int}
theorem new_qq (hm : T.mkr n_Frac = some (3, [.int 0, .int 1], m_F_init)) (hf : T.tn.fl n_Frac = [n_num, n_den]) {n d : Int} (hd : d ≠ 0) (h1 : lg d < 9000) : newD T n_Frac [.int n, .int d] S = .ok (fQ (Rat.divInt n d)) S := by
  rw [new_eq hm hf hd (Nat.lt_of_le_of_lt (lg_gcd hd (Nat.le_refl _)) h1), mkF_q hd]
theorem new_q1 (hm : T.mkr n_Frac = some (3, [.int 0, .int 1], m_F_init)) (hf : T.tn.fl n_Frac = [n_num, n_den]) {n : Int} : newD T n_Frac [.int n] S = .ok (fQ (n : Rat)) S := new_one hm hf
inductive FN : D → D → Rat → Rat → Prop
  | qq (p q : Rat) : FN (fQ p) (fQ q) p q
  | qi (p : Rat) (j : Int) : FN (fQ p) (.int j) p (j : Rat)
  | iq (i : Int) (q : Rat) : FN (.int i) (fQ q) (i : Rat) q
variable {l r : D}
theorem FN.symm (h : FN l r p q) : FN r l q p := by
  cases h with
  | qq p q => exact .qq q p
  | qi p j => exact .iq j p
  | iq i q => exact .qi q i
theorem fn_add (t : OpT T) (h : FN l r p q) (hp : Sz 4000 p) (hq : Sz 4000 q) : opD T .Add l r S = .ok (fQ (p + q)) S := by
  cases h with
  | qq p q => rw [oadd_ff t, add_qq hp hq]
  | qi p j => rw [oadd_fi t, add_qi hp (Sz.i hq)]
  | iq i q => rw [oadd_if t, radd_qi hq (Sz.i hp)]
theorem fn_sub (t : OpT T) (h : FN l r p q) (hp : Sz 4000 p) (hq : Sz 4000 q) : opD T .Sub l r S = .ok (fQ (p - q)) S := by
  cases h with
  | qq p q => rw [osub_ff t, sub_qq hp hq]
  | qi p j => rw [osub_fi t, sub_qi hp (Sz.i hq)]
  | iq i q => rw [osub_if t, rsub_qi hq (Sz.i hp)]
theorem fn_mul (t : OpT T) (h : FN l r p q) (hp : Sz 4000 p) (hq : Sz 4000 q) : opD T .Mult l r S = .ok (fQ (p * q)) S := by
  cases h with
  | qq p q => rw [omul_ff t, mul_qq hp hq]
  | qi p j => rw [omul_fi t, mul_qi hp (Sz.i hq)]
  | iq i q => rw [omul_if t, rmul_qi hq (Sz.i hp)]
theorem ofd_qq (t : OpT T) : opD T .FloorDiv (fQ p) (fQ q) S = m_F_floordiv [fQ p, fQ q] S := ofloordiv_ff t
theorem ofd_qi (t : OpT T) (h : T.meth n_Frac 8 = some (2, m_F_rfloordiv)) : opD T .FloorDiv (fQ p) (.int j) S = m_F_floordiv [fQ p, .int j] S := by simp [opD, dop, rop, dund, t.m7, h]
theorem rfloordiv_q (hq : Sz 4000 q) (hi : lg i ≤ 4000) (hz : q ≠ 0) : m_F_rfloordiv [fQ q, .int i] S = .ok (.int ((i : Rat) / q).floor) S := by
  have e := new_q1 (S := S) tab2.mkr tab2.fl (n := i)
  have e2 := ofd_qq (S := S) op2 (p := (i : Rat)) (q := q)
  have e3 := floordiv_qq (S := S) (p := (i : Rat)) (.int hi) hq hz
  unfold m_F_rfloordiv b_F_rfloordiv
  simp [is_ii tab2, e, e2, e3]
theorem rfloordiv_q0 (hi : lg i ≤ 4000) (hz : q = 0) : m_F_rfloordiv [fQ q, .int i] S = .exc ⟨n_DivisionByZero, [], []⟩ S := by
  have e := new_q1 (S := S) tab2.mkr tab2.fl (n := i)
  have e2 := ofd_qq (S := S) op2 (p := (i : Rat)) (q := q)
  have e3 : m_F_floordiv [fQ (i : Rat), fQ q] S = _ := hz ▸ floordiv_q0 (S := S) (p := (i : Rat)) (.int hi)
  unfold m_F_rfloordiv b_F_rfloordiv
  simp [is_ii tab2, e, e2, e3, gz_x0]
theorem mod_q (h : FN l r p q) (hl : l = fQ p) (hp : Sz 900 p) (hq : Sz 900 q) (hz : q ≠ 0) : m_F_mod [l, r] S = .ok (fQ (p - q * ((p / q).floor : Int))) S := by
  have hk := lg_floordiv hp hq hz
  have hm := hq.mul (Sz.int hk)
  have hp' : Sz 4000 p := hp.mono (by decide)
  have hq' : Sz 4000 q := hq.mono (by decide)
  cases h with
  | qq p q =>
    have e1 := (ofd_qq (S := S) op3 (p := p) (q := q)).trans (floordiv_qq hp' hq' hz)
    have e2 := fn_mul (S := S) op3 (.qi q (p / q).floor) hq' (.int (by omega))
    have e3 := fn_sub (S := S) op3 (.qq p (q * ((p / q).floor : Int))) hp' (hm.mono (by decide))
    unfold m_F_mod b_F_mod
    simp [is_fp tab3, e1, e2, e3]
  | qi p j =>
    have e1 := (ofd_qi (S := S) op3 (p := p) (j := j) rfl).trans (floordiv_qi hp' (Sz.i hq') (by intro h; subst h; exact hz rfl))
    have e2 : opD T3 .Mult (.int j) (.int (p / (j : Rat)).floor) S = .ok (.int (j * (p / (j : Rat)).floor)) S := opi_mul (by have := Sz.i hq; omega)
    have e3 := fn_sub (S := S) op3 (.qi p (j * (p / (j : Rat)).floor)) hp' (by rw [Rat.intCast_mul]; exact hm.mono (by decide))
    rw [Rat.intCast_mul] at e3
    unfold m_F_mod b_F_mod
    simp [is_ip tab3, e1, e2, e3]
  | iq i q => cases hl
theorem mod_q0 (h : FN l r p q) (hl : l = fQ p) (hp : Sz 900 p) (hz : q = 0) : m_F_mod [l, r] S = .exc ⟨n_DivisionByZero, [], []⟩ S := by
  have hp' : Sz 4000 p := hp.mono (by decide)
  cases h with
  | qq p q =>
    have e1 : opD T3 .FloorDiv (fQ p) (fQ q) S = _ := (ofd_qq (S := S) op3 (p := p) (q := q)).trans (hz ▸ floordiv_q0 hp')
    unfold m_F_mod b_F_mod
    simp [is_fp tab3, e1, gz_x0]
  | qi p j =>
    have : j = 0 := Rat.intCast_eq_zero_iff.mp hz
    subst this
    have e1 := (ofd_qi (S := S) op3 (p := p) (j := 0) rfl).trans (floordiv_qi0 hp')
    unfold m_F_mod b_F_mod
    simp [is_ip tab3, e1, gz_x0]
  | iq i q => cases hl
theorem om3b : opD T3b .Mod (fQ p) (fQ q) S = m_F_mod [fQ p, fQ q] S := by
  have : T3b.meth n_Frac 9 = some (2, m_F_mod) := rfl
  simp [opD, dop, dund, this]
theorem rmod_q (hp : Sz 900 (i : Rat)) (hq : Sz 900 q) (hz : q ≠ 0) : m_F_rmod [fQ q, .int i] S = .ok (fQ ((i : Rat) - q * (((i : Rat) / q).floor : Int))) S := by
  have e := new_q1 (S := S) tab3b.mkr tab3b.fl (n := i)
  have e2 := (om3b (S := S) (p := (i : Rat)) (q := q)).trans (mod_q (.qq _ _) rfl hp hq hz)
  unfold m_F_rmod b_F_rmod
  simp [is_ii tab3b, e, e2]
theorem rmod_q0 (hp : Sz 900 (i : Rat)) (hz : q = 0) : m_F_rmod [fQ q, .int i] S = .exc ⟨n_DivisionByZero, [], []⟩ S := by
  have e := new_q1 (S := S) tab3b.mkr tab3b.fl (n := i)
  have e2 := (om3b (S := S) (p := (i : Rat)) (q := q)).trans (mod_q0 (.qq _ _) rfl hp hz)
  unfold m_F_rmod b_F_rmod
  simp [is_ii tab3b, e, e2, gz_x0]
theorem fn_mod (t : OpT5 T) (h : FN l r p q) (hp : Sz 900 p) (hq : Sz 900 q) (hz : q ≠ 0) : opD T .Mod l r S = .ok (fQ (p - q * ((p / q).floor : Int))) S := by
  have h' := h
  cases h with
  | qq p q => simp [opD, dop, dund, t.m9, mod_q h' rfl hp hq hz]
  | qi p j => simp [opD, dop, rop, dund, t.m9, t.m10, mod_q h' rfl hp hq hz]
  | iq i q => simp [opD, dop, rop, dund, t.m9, t.m10, rmod_q hp hq hz]
/-! powers -/
theorem lg_pow {x : Int} {a : Nat} (h : lg x ≤ a) : ∀ n, lg (x ^ n) ≤ n * (a + 1)
  | 0 => by rw [Int.pow_zero]; exact Nat.zero_le _
  | n + 1 => by
    rw [Int.pow_succ, Nat.add_mul]
    have := lg_mul (lg_pow h n) h
    omega
theorem pow_go (hp : Sz 500 p) (n : Nat) (hn : n ≤ 16) : ∃ y4, forL (gNm 4) lb_F_pow_0 (rangeD 0 n) [some (fQ p), some (.int n), some (.int 1), some (.int 1), none] S =
      .nx [some (fQ p), some (.int n), some (.int (p.num ^ n)), some (.int ((p.den : Int) ^ n)), y4] S := by
  have step : ∀ k d env S', (rangeD 0 n)[k]? = some d → (∃ y4, S' = S ∧ env = [some (fQ p), some (.int n), some (.int (p.num ^ (0 + k))), some (.int ((p.den : Int) ^ (0 + k))), y4]) →
      ∃ env' S2, turnF (gNm 4) lb_F_pow_0 d env S' = .nx env' S2 ∧ (∃ y4, S2 = S ∧ env' = [some (fQ p), some (.int n), some (.int (p.num ^ (0 + k + 1))), some (.int ((p.den : Int) ^ (0 + k + 1))), y4]) := by
    rintro k d env S' hd ⟨y4, rfl, rfl⟩
    obtain ⟨hk, rfl⟩ := rangeD_get hd
    rw [Nat.zero_add]
    have hk2 : k * 501 ≤ 16 * 501 := Nat.mul_le_mul_right _ (by omega)
    have b1 := lg_pow hp.1 k
    have b2 := lg_pow hp.2 k
    have c1 := opi_mul (T := T1) (S := S') (i := p.num ^ k) (j := p.num) (by have := hp.1; omega)
    have c2 := opi_mul (T := T1) (S := S') (i := (p.den : Int) ^ k) (j := (p.den : Int)) (by have := hp.2; omega)
    refine ⟨[some (fQ p), some (.int n), some (.int (p.num ^ (k + 1))), some (.int ((p.den : Int) ^ (k + 1))), some (.int (0 + k))], S', ?_, _, rfl, rfl⟩
    rw [Int.pow_succ, Int.pow_succ]
    unfold turnF lb_F_pow_0
    simp [at_num tab1, at_den tab1, c1, c2]
  obtain ⟨e, S', h1, y4, h2, h3⟩ := forL_inv (plain_nm 4) (fun k env S' => ∃ y4, S' = S ∧ env = [some (fQ p), some (.int n), some (.int (p.num ^ k)), some (.int ((p.den : Int) ^ k)), y4]) (rangeD 0 n) 0 [some (fQ p), some (.int n), some (.int 1), some (.int 1), none] S ⟨none, rfl, by simp⟩ step
  subst h2 h3
  rw [rangeD_len, Nat.zero_add] at h1
  exact ⟨y4, h1⟩
theorem pw1 (hp : Sz 500 p) (n : Nat) (hn : n ≤ 16) : lg ((p.den : Int) ^ n) < 9000 := by have := lg_pow hp.2 n; have : n * 501 ≤ 16 * 501 := Nat.mul_le_mul_right _ hn; omega
theorem pw2 (n : Nat) : Rat.divInt (p.num ^ n) ((p.den : Int) ^ n) = p ^ n := by
    rw [← Rat.num_divInt_den (p ^ n), Rat.num_pow, Rat.den_pow]; simp
theorem pw3 (n : Nat) (hn : n ≤ 16) : iRange1 (mVar 1) [some (fQ p), some (.int n), some (.int 1), some (.int 1), none] S = .ok (.items (rangeD 0 n)) S := rng1 (j := n) rfl (by omega) (by omega)
theorem pow_q (hp : Sz 500 p) (n : Nat) (hn : n ≤ 16) : m_F_pow [fQ p, .int n] S = .ok (fQ (p ^ n)) S := by
  obtain ⟨y4, ey⟩ := pow_go (S := S) hp n hn
  have hd : ((p.den : Int) ^ n) ≠ 0 := Int.pow_ne_zero (den_ne p)
  have e := new_qq (S := S) tab1.mkr tab1.fl (n := p.num ^ n) hd (pw1 hp n hn)
  rw [pw2] at e
  have er := pw3 (S := S) (p := p) n hn
  have zb : below S.length (fQ (p ^ n)) = true := rfl
  generalize (fQ (p ^ n)) = z at e zb ⊢
  unfold m_F_pow b_F_pow
  simp [er, ey, is_ii tab1, e, zb]
theorem fn_pow (t : OpT5 T) (hp : Sz 500 p) (n : Nat) (hn : n ≤ 16) : opD T .Pow (fQ p) (.int n) S = .ok (fQ (p ^ n)) S := by
  simp [opD, dop, rop, dund, t.m11, t.n12, pow_q hp n hn]
end


end F
def eQ (q : Rat) : D := Fr q.num q.den
def eP (q : Rat) : D := .tup [.int q.num, .int q.den]
abbrev FN := F.FN
@[simp] theorem below_eQ {k : Nat} {q : Rat} : below k (eQ q) = true := id rfl
@[simp] theorem below_eP {k : Nat} {q : Rat} : below k (eP q) = true := id rfl
@[simp] theorem belows_eQ {k : Nat} {xs : List Rat} : belows k (xs.map eQ) = true := belows_map (fun _ => rfl) xs
@[simp] theorem belows_eP {k : Nat} {xs : List Rat} : belows k (xs.map eP) = true := belows_map (fun _ => rfl) xs
section
variable {T : CT} {S : Store} {p q : Rat} {i j : Int} {l r : D}
theorem add_qq (hp : Sz 4000 p) (hq : Sz 4000 q) : m_F_add [eQ p, eQ q] S = .ok (eQ (p + q)) S := F.add_qq hp hq
theorem sub_qq (hp : Sz 4000 p) (hq : Sz 4000 q) : m_F_sub [eQ p, eQ q] S = .ok (eQ (p - q)) S := F.sub_qq hp hq
theorem mul_qq (hp : Sz 4000 p) (hq : Sz 4000 q) : m_F_mul [eQ p, eQ q] S = .ok (eQ (p * q)) S := F.mul_qq hp hq
theorem add_qi (hp : Sz 4000 p) (hi : lg i ≤ 4000) : m_F_add [eQ p, .int i] S = .ok (eQ (p + i)) S := F.add_qi hp hi
theorem sub_qi (hp : Sz 4000 p) (hi : lg i ≤ 4000) : m_F_sub [eQ p, .int i] S = .ok (eQ (p - i)) S := F.sub_qi hp hi
theorem mul_qi (hp : Sz 4000 p) (hi : lg i ≤ 4000) : m_F_mul [eQ p, .int i] S = .ok (eQ (p * i)) S := F.mul_qi hp hi
theorem radd_qi (hp : Sz 4000 p) (hi : lg i ≤ 4000) : m_F_radd [eQ p, .int i] S = .ok (eQ (i + p)) S := F.radd_qi hp hi
theorem rsub_qi (hp : Sz 4000 p) (hi : lg i ≤ 4000) : m_F_rsub [eQ p, .int i] S = .ok (eQ (i - p)) S := F.rsub_qi hp hi
theorem rmul_qi (hp : Sz 4000 p) (hi : lg i ≤ 4000) : m_F_rmul [eQ p, .int i] S = .ok (eQ (i * p)) S := F.rmul_qi hp hi
theorem neg_q (hp : Sz 4000 p) : m_F_neg [eQ p] S = .ok (eQ (-p)) S := F.neg_q hp
theorem abs_q (hp : Sz 4000 p) : m_F_abs [eQ p] S = .ok (eQ p.abs) S := F.abs_q hp
theorem lt_qq (hp : Sz 4000 p) (hq : Sz 4000 q) : m_F_lt [eQ p, eQ q] S = .ok (.bl (decide (p < q))) S := F.lt_qq hp hq
theorem le_qq (hp : Sz 4000 p) (hq : Sz 4000 q) : m_F_le [eQ p, eQ q] S = .ok (.bl (decide (p ≤ q))) S := F.le_qq hp hq
theorem gt_qq (hp : Sz 4000 p) (hq : Sz 4000 q) : m_F_gt [eQ p, eQ q] S = .ok (.bl (decide (q < p))) S := F.gt_qq hp hq
theorem ge_qq (hp : Sz 4000 p) (hq : Sz 4000 q) : m_F_ge [eQ p, eQ q] S = .ok (.bl (decide (q ≤ p))) S := F.ge_qq hp hq
theorem lt_qi (hp : Sz 4000 p) (hi : lg i ≤ 4000) : m_F_lt [eQ p, .int i] S = .ok (.bl (decide (p < i))) S := F.lt_qi hp hi
theorem le_qi (hp : Sz 4000 p) (hi : lg i ≤ 4000) : m_F_le [eQ p, .int i] S = .ok (.bl (decide (p ≤ i))) S := F.le_qi hp hi
theorem gt_qi (hp : Sz 4000 p) (hi : lg i ≤ 4000) : m_F_gt [eQ p, .int i] S = .ok (.bl (decide ((i : Rat) < p))) S := F.gt_qi hp hi
theorem ge_qi (hp : Sz 4000 p) (hi : lg i ≤ 4000) : m_F_ge [eQ p, .int i] S = .ok (.bl (decide ((i : Rat) ≤ p))) S := F.ge_qi hp hi
theorem eq_qq (hp : Sz 4000 p) (hq : Sz 4000 q) : m_F_eq [eQ p, eQ q] S = .ok (.bl (decide (p = q))) S := F.eq_qq hp hq
theorem eq_qi (hp : Sz 4000 p) (hi : lg i ≤ 4000) : m_F_eq [eQ p, .int i] S = .ok (.bl (decide (p = (i : Rat)))) S := F.eq_qi hp hi
theorem bool_q (hp : Sz 4000 p) : m_F_bool [eQ p] S = .ok (.bl (!decide (p = 0))) S := F.bool_q hp
theorem floordiv_qq (hp : Sz 4000 p) (hq : Sz 4000 q) (hz : q ≠ 0) : m_F_floordiv [eQ p, eQ q] S = .ok (.int (p / q).floor) S := F.floordiv_qq hp hq hz
theorem floordiv_qi (hp : Sz 4000 p) (hi : lg i ≤ 4000) (hz : i ≠ 0) : m_F_floordiv [eQ p, .int i] S = .ok (.int (p / (i : Rat)).floor) S := F.floordiv_qi hp hi hz
theorem floordiv_q0 (hp : Sz 4000 p) : m_F_floordiv [eQ p, eQ 0] S = .exc ⟨n_DivisionByZero, [], []⟩ S := F.floordiv_q0 hp
theorem floordiv_qi0 (hp : Sz 4000 p) : m_F_floordiv [eQ p, .int 0] S = .exc ⟨n_DivisionByZero, [], []⟩ S := F.floordiv_qi0 hp
theorem new_qq (hm : T.mkr n_Frac = some (3, [.int 0, .int 1], m_F_init)) (hf : T.tn.fl n_Frac = [n_num, n_den]) {n d : Int} (hd : d ≠ 0) (h1 : lg d < 9000) : newD T n_Frac [.int n, .int d] S = .ok (eQ (Rat.divInt n d)) S := F.new_qq hm hf hd h1
theorem new_q1 (hm : T.mkr n_Frac = some (3, [.int 0, .int 1], m_F_init)) (hf : T.tn.fl n_Frac = [n_num, n_den]) {n : Int} : newD T n_Frac [.int n] S = .ok (eQ (n : Rat)) S := F.new_q1 hm hf
theorem fn_add (t : OpT T) (h : FN l r p q) (hp : Sz 4000 p) (hq : Sz 4000 q) : opD T .Add l r S = .ok (eQ (p + q)) S := F.fn_add t h hp hq
theorem fn_sub (t : OpT T) (h : FN l r p q) (hp : Sz 4000 p) (hq : Sz 4000 q) : opD T .Sub l r S = .ok (eQ (p - q)) S := F.fn_sub t h hp hq
theorem fn_mul (t : OpT T) (h : FN l r p q) (hp : Sz 4000 p) (hq : Sz 4000 q) : opD T .Mult l r S = .ok (eQ (p * q)) S := F.fn_mul t h hp hq
theorem ofd_qq (t : OpT T) : opD T .FloorDiv (eQ p) (eQ q) S = m_F_floordiv [eQ p, eQ q] S := F.ofd_qq t
theorem ofd_qi (t : OpT T) (h : T.meth n_Frac 8 = some (2, m_F_rfloordiv)) : opD T .FloorDiv (eQ p) (.int j) S = m_F_floordiv [eQ p, .int j] S := F.ofd_qi t h
theorem rfloordiv_q (hq : Sz 4000 q) (hi : lg i ≤ 4000) (hz : q ≠ 0) : m_F_rfloordiv [eQ q, .int i] S = .ok (.int ((i : Rat) / q).floor) S := F.rfloordiv_q hq hi hz
theorem rfloordiv_q0 (hi : lg i ≤ 4000) (hz : q = 0) : m_F_rfloordiv [eQ q, .int i] S = .exc ⟨n_DivisionByZero, [], []⟩ S := F.rfloordiv_q0 hi hz
theorem mod_q (h : FN l r p q) (hl : l = eQ p) (hp : Sz 900 p) (hq : Sz 900 q) (hz : q ≠ 0) : m_F_mod [l, r] S = .ok (eQ (p - q * ((p / q).floor : Int))) S := F.mod_q h hl hp hq hz
theorem mod_q0 (h : FN l r p q) (hl : l = eQ p) (hp : Sz 900 p) (hz : q = 0) : m_F_mod [l, r] S = .exc ⟨n_DivisionByZero, [], []⟩ S := F.mod_q0 h hl hp hz
theorem om3b : opD T3b .Mod (eQ p) (eQ q) S = m_F_mod [eQ p, eQ q] S := F.om3b 
theorem rmod_q (hp : Sz 900 (i : Rat)) (hq : Sz 900 q) (hz : q ≠ 0) : m_F_rmod [eQ q, .int i] S = .ok (eQ ((i : Rat) - q * (((i : Rat) / q).floor : Int))) S := F.rmod_q hp hq hz
theorem rmod_q0 (hp : Sz 900 (i : Rat)) (hz : q = 0) : m_F_rmod [eQ q, .int i] S = .exc ⟨n_DivisionByZero, [], []⟩ S := F.rmod_q0 hp hz
theorem fn_mod (t : OpT5 T) (h : FN l r p q) (hp : Sz 900 p) (hq : Sz 900 q) (hz : q ≠ 0) : opD T .Mod l r S = .ok (eQ (p - q * ((p / q).floor : Int))) S := F.fn_mod t h hp hq hz
theorem pw3 (n : Nat) (hn : n ≤ 16) : iRange1 (mVar 1) [some (eQ p), some (.int n), some (.int 1), some (.int 1), none] S = .ok (.items (rangeD 0 n)) S := F.pw3 n hn
theorem pow_q (hp : Sz 500 p) (n : Nat) (hn : n ≤ 16) : m_F_pow [eQ p, .int n] S = .ok (eQ (p ^ n)) S := F.pow_q hp n hn
theorem fn_pow (t : OpT5 T) (hp : Sz 500 p) (n : Nat) (hn : n ≤ 16) : opD T .Pow (eQ p) (.int n) S = .ok (eQ (p ^ n)) S := F.fn_pow t hp n hn
end
end Lw


set_option Elab.async false
set_option linter.all false
set_option maxRecDepth 100000
set_option maxHeartbeats 1000000
/-! Q1: sums of rationals, sizes of sums. Plain Lean. -/
namespace Bp
def sm : List Rat → Rat
  | [] => 0
  | x :: xs => x + sm xs
abbrev dotQ (xs ys : List Rat) : Rat := sm (List.zipWith (· * ·) xs ys)
theorem Sz.sm {a : Nat} : ∀ {xs : List Rat}, (∀ x ∈ xs, Sz a x) → Sz (xs.length * (a + 2)) (sm xs)
  | [], _ => Sz.zero
  | x :: xs, h => by
    have h1 := h x (by simp)
    have h2 := Sz.sm (xs := xs) fun y hy => h y (by simp [hy])
    exact (h1.add h2).mono (by simp only [List.length_cons, Nat.succ_mul]; omega)
theorem Sz.lit {k : Nat} {n : Int} {d : Nat} (h : lg n ≤ k) (h2 : lg (d : Int) ≤ k) : Sz k (Rat.divInt n d) := Sz.divInt h h2
end Bp


set_option Elab.async false
set_option linter.all false
set_option maxRecDepth 100000
set_option maxHeartbeats 1000000
/-! Pv: loops as a whole. -/
namespace Bp
open PySem L2 PyProof.Rows
section
variable {g : MG} {body : MS} {it : Env → Store → Res Wk} {w : Wk} {env : Env} {S S1 : Store}
theorem for_it {α : Type} (e : α → D) (xs : List α) (hp : Plain g) (hi : it env S = .ok w S1) (hf : Wf w (xs.map e)) (P : Nat → Env → Store → Prop) (h0 : P 0 env S1)
    (hs : ∀ k x env S, xs[k]? = some x → P k env S → ∃ env' S', turnF g body (e x) env S = .nx env' S' ∧ P (k + 1) env' S') (hw : ∀ n, w ≠ .at_ n := by intro _ h; cases h) : ∃ env' S', mFor it g body env S = .nx env' S' ∧ P xs.length env' S' := by
  rw [mFor_of hi hf hw]
  exact forL_x e hp P xs h0 hs
theorem for_itx {α : Type} (e : α → D) (xs : List α) (hp : Plain g) (hi : it env S = .ok w S1) (hf : Wf w (xs.map e)) (P : Nat → Env → Store → Prop) (R : D → Store → Prop) (h0 : P 0 env S1)
    (hs : ∀ k x env S, xs[k]? = some x → P k env S → (∃ env' S', turnF g body (e x) env S = .nx env' S' ∧ P (k + 1) env' S') ∨ ∃ d S', turnF g body (e x) env S = .rt d S' ∧ R d S') (hw : ∀ n, w ≠ .at_ n := by intro _ h; cases h) :
    (∃ env' S', mFor it g body env S = .nx env' S' ∧ P xs.length env' S') ∨ ∃ d S', mFor it g body env S = .rt d S' ∧ R d S' := by
  rw [mFor_of hi hf hw]
  refine forL_xe (body := body) e hp P (fun r => (∃ env' S', r = .nx env' S' ∧ P xs.length env' S') ∨ ∃ d S', r = .rt d S' ∧ R d S') xs h0 (fun k x env S hx hP => ?_) fun env S hP => .inl ⟨_, _, rfl, hP⟩
  rcases hs k x env S hx hP with ⟨env', S', h, h2⟩ | ⟨d, S', h, h2⟩
  · rw [h]; exact h2
  · rw [h]; exact .inr ⟨_, _, rfl, h2⟩
theorem for_rng {n : Nat} (hp : Plain g) (hi : it env S = .ok (.items (rangeD 0 n)) S1) (P : Nat → Env → Store → Prop) (h0 : P 0 env S1)
    (hs : ∀ k env S, k < n → P k env S → ∃ env' S', turnF g body (.int (0 + (k : Nat))) env S = .nx env' S' ∧ P (k + 1) env' S') : ∃ env' S', mFor it g body env S = .nx env' S' ∧ P n env' S' := by
  have h := for_it (body := body) (it := it) (env := env) (S := S) (S1 := S1) (w := .items (rangeD 0 n)) (fun i : Nat => D.int (0 + (i : Nat))) (List.range n) hp hi (wf_items _) P h0 (fun k x env S hx hP => by
    obtain ⟨rfl, hk⟩ := range_get hx
    exact hs x env S hk hP)
  rwa [List.length_range] at h
theorem step_rt {g : MG} {body : MS} {x d : D} {env : Env} {S S' : Store} {R : D → Store → Prop} {A : Prop} (h : turnF g body x env S = .rt d S') (hi : R d S') : A ∨ ∃ d S', turnF g body x env S = .rt d S' ∧ R d S' := .inr ⟨_, _, h, hi⟩
theorem step_nx {g : MG} {body : MS} {x : D} {env : Env} {S : Store} {env' : Env} {S' : Store} {I : Env → Store → Prop} {B : Prop} (h : turnF g body x env S = .nx env' S') (hi : I env' S') : (∃ env' S', turnF g body x env S = .nx env' S' ∧ I env' S') ∨ B := .inl ⟨_, _, h, hi⟩
end
section
variable {ta tb : MT} {env : Env} {S : Store} {a b c : Bool}
theorem and_to (h1 : ta env S = .ok a S) (h2 : tb env S = .ok b S) (h : (a && b) = c) : mAnd ta tb env S = .ok c S := by
  rw [ev_and, h1, Res.bind_ok]
  cases a with
  | true => rw [if_pos rfl, h2]; simpa using h
  | false => rw [if_neg (by decide)]; simp at h; rw [h]
theorem or_to (h1 : ta env S = .ok a S) (h2 : tb env S = .ok b S) (h : (a || b) = c) : mOr ta tb env S = .ok c S := by
  rw [ev_or, h1, Res.bind_ok]
  cases a with
  | true => rw [if_pos rfl]; simp at h; rw [h]
  | false => rw [if_neg (by decide), h2]; simpa using h
end
/-! two lists at the end of the store -/
section
variable {S : Store} {a b a' b' : O}
end
end Bp


set_option Elab.async false
set_option linter.all false
set_option maxRecDepth 100000
set_option maxHeartbeats 1000000
/-! Qt: the written form of a fraction: plain law of texts. -/
namespace Bp
open PySem PyProof.Rows
abbrev tS (l : List Nat) : Str := SX.S l
theorem tS_inj {a b : List Nat} (h : tS a = tS b) : a = b := SX.S_inj h
theorem tS_len (a : List Nat) : (tS a).length = a.length := SX.S_len a
theorem tS_cat (a b : List Nat) : tS a ++ tS b = tS (a ++ b) := SX.S_cat a b
/-! ### digits -/
theorem ofNat_toNat : ∀ c, 48 ≤ c ∧ c ≤ 57 → (Char.ofNat c).toNat = c := by
  intro c ⟨h1, h2⟩
  have : ∀ c : Fin 58, 48 ≤ c.val → (Char.ofNat c.val).toNat = c.val := by decide
  exact this ⟨c, by omega⟩ h1
theorem numL_canon {w : List Nat} (h : NumText.AllDigits w) (hne : w ≠ []) (hh : w.length = 1 ∨ ∃ c r, w = c :: r ∧ 49 ≤ c) : TL.numL (NumText.digitsVal w) = w := by
  obtain ⟨n, hn⟩ : ∃ n, w.length = n + 1 := ⟨w.length - 1, by have := List.length_pos_iff.mpr hne; omega⟩
  have e := NumText.toDigits_digitsVal n w hn h (by
    rcases hh with h1 | h1
    · exact .inl (by omega)
    · exact .inr h1)
  show (Nat.toDigits 10 (NumText.digitsVal w)).map Char.toNat = w
  rw [e, List.map_map]
  refine (List.map_congr_left fun c hc => ?_).trans (List.map_id _)
  exact ofNat_toNat c (h c hc)
theorem numL_hd : ∀ (n : Nat), (TL.numL n).length = 1 ∨ ∃ c r, TL.numL n = c :: r ∧ 49 ≤ c := by
  intro n
  induction n using Nat.strongRecOn with
  | _ n ih =>
    by_cases h : n < 10
    · left; rw [show TL.numL n = [48 + n] from TL.numL_lt h]; rfl
    · right
      rw [show TL.numL n = TL.numL (n / 10) ++ [48 + n % 10] from TL.numL_step (by omega)]
      rcases ih (n / 10) (by omega) with h1 | ⟨c, r, e, hc⟩
      · by_cases h2 : n / 10 < 10
        · rw [show TL.numL (n / 10) = [48 + n / 10] from TL.numL_lt h2]
          exact ⟨_, _, rfl, by omega⟩
        · rw [show TL.numL (n / 10) = TL.numL (n / 10 / 10) ++ [48 + n / 10 % 10] from TL.numL_step (by omega)] at h1
          have := List.length_pos_iff.mpr (TL.numL_ne (n / 10 / 10))
          rw [List.length_append, List.length_singleton] at h1
          omega
      · exact ⟨c, r ++ [48 + n % 10], by rw [e]; rfl, hc⟩
/-! ### what the law reads of a word: its value, or nothing -/
def figL (w : List Nat) : Option Nat := if w ≠ [] ∧ w.length ≤ 40 ∧ (w.length = 1 ∨ w.head? ≠ some 48) ∧ w.all (fun c => decide (48 ≤ c ∧ c ≤ 57)) = true then some (NumText.digitsVal w) else none
theorem allD_iff {w : List Nat} : w.all (fun c => decide (48 ≤ c ∧ c ≤ 57)) = true ↔ NumText.AllDigits w := by
  rw [List.all_eq_true]
  exact ⟨fun h c hc => of_decide_eq_true (h c hc), fun h c hc => decide_eq_true (h c hc)⟩
theorem figL_some {w : List Nat} {n : Nat} (h : figL w = some n) : w = TL.numL n ∧ w.length ≤ 40 := by
  unfold figL at h
  split at h
  · rename_i hc
    obtain ⟨h1, h2, h3, h4⟩ := hc
    cases h
    have hd := allD_iff.mp h4
    refine ⟨(numL_canon hd h1 ?_).symm, h2⟩
    rcases h3 with h3 | h3
    · exact .inl h3
    · cases w with
      | nil => exact absurd rfl h1
      | cons c r =>
        refine .inr ⟨c, r, rfl, ?_⟩
        have := hd c (by simp)
        simp at h3
        omega
  · cases h
theorem figL_num {n : Nat} (h : (TL.numL n).length ≤ 40) : figL (TL.numL n) = some n := by
  unfold figL
  rw [if_pos, TL.numL_val]
  refine ⟨TL.numL_ne n, h, ?_, allD_iff.mpr (TL.numL_digits n)⟩
  rcases numL_hd n with h1 | ⟨c, r, e, hc⟩
  · exact .inl h1
  · right; rw [e]; simp; omega
/-! ### the written form -/
def numI (i : Int) : List Nat := if i < 0 then 45 :: TL.numL i.natAbs else TL.numL i.natAbs
def wr (q : Rat) : List Nat := numI q.num ++ (if q.den = 1 then [] else 47 :: TL.numL q.den)
theorem cut47 : ∀ (r : List Nat), 47 ∉ r ∨ ∃ a b, r = a ++ 47 :: b ∧ 47 ∉ a
  | [] => .inl (by simp)
  | c :: r => by
    by_cases h : c = 47
    · exact .inr ⟨[], r, by rw [h]; rfl, by simp⟩
    · rcases cut47 r with h1 | ⟨a, b, e, h1⟩
      · exact .inl (by simp; exact ⟨fun z => h z.symm, h1⟩)
      · exact .inr ⟨c :: a, b, by rw [e]; rfl, by simp; exact ⟨fun z => h z.symm, h1⟩⟩
theorem par_no {r : List Nat} (h : 47 ∉ r) : Txt.partition (tS r) "/" = (tS r, tS [], tS []) := SX.partition_none (b := [47]) (by simp) (TL.par_none1 h)
theorem par_yes {a b : List Nat} (h : 47 ∉ a) : Txt.partition (tS (a ++ 47 :: b)) "/" = (tS a, ("/" : Str), tS b) := SX.partition_some (b := [47]) (by simp) (by
  have := TL.par_part1 (s := 47) (S := []) (p := a) (rest := b) (acc := []) h
  simpa using this)
theorem spl_no {r : List Nat} (h : 47 ∉ r) : Txt.split (tS r) "/" = [tS r] := by
  have e := SX.split_S (a := r) (b := [47]) (by simp) (by decide)
  rw [TL.spl_last1 h] at e
  exact e
theorem spl_yes {a b : List Nat} (h : 47 ∉ a) : Txt.split (tS (a ++ 47 :: b)) "/" = tS a :: Txt.split (tS b) "/" := by
  have e := SX.split_S (a := a ++ 47 :: b) (b := [47]) (by simp) (by decide)
  have e2 := SX.split_S (a := b) (b := [47]) (by simp) (by decide)
  have := TL.spl_part1 (s := 47) (S := []) (p := a) (rest := b) (acc := []) h
  rw [show a ++ 47 :: b = a ++ ([47] ++ b) from rfl] at e
  rw [this] at e
  refine e.trans ?_
  rw [List.map_cons, show Txt.split (tS b) "/" = _ from e2]
  rfl
theorem spl_pos (r : List Nat) : 1 ≤ (Txt.split (tS r) "/").length := by
  rcases cut47 r with h | ⟨a, b, rfl, h⟩
  · rw [spl_no h]; simp
  · rw [spl_yes h]; simp
theorem spl_two {a b : List Nat} (h : 47 ∉ a) (hb : 47 ∈ b) : 3 ≤ (Txt.split (tS (a ++ 47 :: b)) "/").length := by
  rw [spl_yes h]
  rcases cut47 b with h1 | ⟨c, d, rfl, h1⟩
  · exact absurd hb h1
  · rw [spl_yes h1]
    have := spl_pos d
    simp
    omega
/-! ### a text's sign and body -/
def neg? (t : List Nat) : Bool := t.head? == some 45
def body (t : List Nat) : List Nat := if neg? t = true then t.tail else t
theorem neg_body {t : List Nat} : t = (if neg? t = true then 45 :: body t else body t) := by
  unfold body neg?
  cases t with
  | nil => rfl
  | cons c r =>
    by_cases h : c = 45
    · subst h; rfl
    · have : ((c :: r).head? == some 45) = false := by simp [h]
      rw [this]; rfl
def rdL (t : List Nat) : Option Rat := match Txt.split (tS (body t)) "/" with
  | [a] => (match figL a.cps.toList with
    | some n => if n = 0 ∧ neg? t = true then none else some (Rat.divInt (if neg? t = true then -(n : Int) else n) 1)
    | none => none)
  | [a, b] => (match figL a.cps.toList, figL b.cps.toList with
    | some n, some d => if d < 2 ∨ n = 0 ∨ Nat.gcd n d ≠ 1 then none else some (Rat.divInt (if neg? t = true then -(n : Int) else n) d)
    | _, _ => none)
  | _ => none
def isF (w : List Nat) : Bool := decide (w.length ≤ 40) && (decide (w ≠ []) && w.all (fun c => decide (48 ≤ c ∧ c ≤ 57)))
def cutP (r : List Nat) : List Nat × List Nat := ((Txt.partition (tS r) "/").1.cps.toList, if (Txt.partition (tS r) "/").2.1 = ("" : Str) then [49] else (Txt.partition (tS r) "/").2.2.cps.toList)
def sgQ (s : Bool) (q : Rat) : Rat := if s = true then -q else q
def rdP (t : List Nat) : Option Rat :=
  let w := cutP (body t)
  if isF w.1 = true ∧ isF w.2 = true ∧ NumText.digitsVal w.2 ≠ 0 then
    let q := sgQ (neg? t) (Rat.divInt (NumText.digitsVal w.1 : Nat) (NumText.digitsVal w.2 : Nat))
    if wr q = t then some q else none
  else none
theorem cutP_no {r : List Nat} (h : 47 ∉ r) : cutP r = (r, [49]) := by
  unfold cutP
  rw [par_no h]
  rfl
theorem cutP_yes {a b : List Nat} (h : 47 ∉ a) : cutP (a ++ 47 :: b) = (a, b) := by
  unfold cutP
  rw [par_yes h]
  dsimp only
  rw [if_neg (by decide +kernel)]
theorem isF_iff {w : List Nat} : isF w = true ↔ w.length ≤ 40 ∧ w ≠ [] ∧ NumText.AllDigits w := by
  unfold isF
  rw [Bool.and_eq_true, Bool.and_eq_true, decide_eq_true_eq, decide_eq_true_eq, allD_iff]
theorem isF_num {n : Nat} (h : (TL.numL n).length ≤ 40) : isF (TL.numL n) = true := isF_iff.mpr ⟨h, TL.numL_ne n, TL.numL_digits n⟩
/-! ### the law reads exactly the written forms with at most forty figures -/
structure WF (q : Rat) : Prop where
  n : (TL.numL q.num.natAbs).length ≤ 40
  d : (TL.numL q.den).length ≤ 40
theorem neg_wr (q : Rat) : neg? (wr q) = decide (q.num < 0) ∧ body (wr q) = TL.numL q.num.natAbs ++ (if q.den = 1 then [] else 47 :: TL.numL q.den) := by
  have hd : ∀ (n : Nat) (r : List Nat), neg? (TL.numL n ++ r) = false := fun n r => by
    unfold neg?
    cases e : TL.numL n with
    | nil => exact absurd e (TL.numL_ne n)
    | cons c s =>
      have := TL.numL_digits n c (by rw [e]; simp)
      simp
      omega
  unfold wr numI
  by_cases h : q.num < 0
  · rw [if_pos h, decide_eq_true h]
    exact ⟨rfl, rfl⟩
  · rw [if_neg h, decide_eq_false h]
    have h2 := hd q.num.natAbs (if q.den = 1 then [] else 47 :: TL.numL q.den)
    refine ⟨h2, ?_⟩
    unfold body
    rw [h2]
    rfl
theorem natAbs_sign (q : Rat) : (if decide (q.num < 0) = true then -((q.num.natAbs : Nat) : Int) else (q.num.natAbs : Nat)) = q.num := by
  by_cases h : q.num < 0
  · rw [if_pos (decide_eq_true h)]; omega
  · rw [if_neg (by simpa using h)]; omega
theorem rdL_wr {q : Rat} (h : WF q) : rdL (wr q) = some q := by
  obtain ⟨e1, e2⟩ := neg_wr q
  unfold rdL
  rw [e2, e1]
  by_cases hd : q.den = 1
  · rw [if_pos hd, List.append_nil, spl_no (TL.numL_free (.inl (by decide)))]
    dsimp only
    rw [figL_num h.n]
    dsimp only
    rw [if_neg (by
      rintro ⟨h1, h2⟩
      have := of_decide_eq_true h2
      omega), natAbs_sign]
    rw [show (1 : Int) = ((q.den : Nat) : Int) by rw [hd]; rfl, Rat.num_divInt_den]
  · rw [if_neg hd, spl_yes (TL.numL_free (.inl (by decide))), spl_no (TL.numL_free (.inl (by decide)))]
    dsimp only
    rw [figL_num h.n, figL_num h.d]
    dsimp only
    have hz : q.num.natAbs ≠ 0 := fun hz => hd (by
      have h1 := q.reduced
      unfold Nat.Coprime at h1
      rw [hz, Nat.gcd_zero_left] at h1
      exact h1)
    rw [if_neg (by
      rintro (h1 | h1 | h1)
      · have := q.den_pos; omega
      · exact hz h1
      · exact h1 q.reduced), natAbs_sign, Rat.num_divInt_den]
theorem divInt_mk {i : Int} {d : Nat} (hg : Nat.Coprime i.natAbs d) (hd : 0 < d) : (Rat.divInt i d).num = i ∧ (Rat.divInt i d).den = d := by
  rw [← Rat.mk_eq_divInt (nz := by omega) (c := hg)]
  exact ⟨rfl, rfl⟩
theorem wr_divInt {n d : Nat} {s : Bool} (hg : Nat.gcd n d = 1) (hd : 0 < d) (hz : n = 0 → s = false) : wr (Rat.divInt (if s = true then -(n : Int) else n) d) = (if s = true then [45] else []) ++ TL.numL n ++ (if d = 1 then [] else 47 :: TL.numL d) ∧ (Rat.divInt (if s = true then -(n : Int) else n) d).num.natAbs = n ∧ (Rat.divInt (if s = true then -(n : Int) else n) d).den = d := by
  have ha : (if s = true then -(n : Int) else n).natAbs = n := by cases s <;> simp
  obtain ⟨e1, e2⟩ := divInt_mk (i := if s = true then -(n : Int) else n) (d := d) (by rw [ha]; exact hg) hd
  unfold wr numI
  rw [e1, e2, ha]
  refine ⟨?_, rfl, rfl⟩
  cases s with
  | false =>
    rw [if_neg (show ¬ (if false = true then -(n : Int) else n) < 0 by simp)]
    rfl
  | true =>
    have hn : n ≠ 0 := fun h => by cases hz h
    rw [if_pos (by simp; omega), if_pos rfl]
    rfl
theorem rdL_some {t : List Nat} {q : Rat} (h : rdL t = some q) : t = wr q ∧ WF q := by
  unfold rdL at h
  have nb := neg_body (t := t)
  rcases cut47 (body t) with h0 | ⟨a, b, e, h0⟩
  · rw [spl_no h0] at h
    dsimp only at h
    split at h
    case h_2 => cases h
    rename_i n hn
    obtain ⟨e1, e2⟩ := figL_some hn
    have e1 : body t = TL.numL n := e1
    split at h
    · cases h
    rename_i hc
    cases h
    have z := wr_divInt (n := n) (d := 1) (s := neg? t) (Nat.gcd_one_right n) (by decide) (fun hz => by
      cases hs : neg? t with
      | false => rfl
      | true => exact absurd ⟨hz, hs⟩ hc)
    rw [if_pos rfl, List.append_nil] at z
    refine ⟨?_, ⟨?_, ?_⟩⟩
    · refine Eq.trans ?_ z.1.symm
      rw [← e1]
      cases hs : neg? t <;> rw [hs] at nb <;> exact nb
    · rw [show ((Rat.divInt (if neg? t = true then -(n : Int) else n) 1).num.natAbs) = n from z.2.1, ← e1]
      exact e2
    · rw [show (Rat.divInt (if neg? t = true then -(n : Int) else n) 1).den = 1 from z.2.2, TL.numL_lt (by decide)]
      decide
  · rw [e, spl_yes h0] at h
    rcases cut47 b with h1 | ⟨c, d, rfl, h1⟩
    · rw [spl_no h1] at h
      dsimp only at h
      split at h
      case h_2 => cases h
      rename_i n d hn hd
      obtain ⟨e1, e2⟩ := figL_some hn
      obtain ⟨e3, e4⟩ := figL_some hd
      have e1 : a = TL.numL n := e1
      have e3 : b = TL.numL d := e3
      split at h
      · cases h
      rename_i hc
      have hd2 : 2 ≤ d := by
        by_cases z : d < 2
        · exact absurd (.inl z) hc
        · omega
      have hg : Nat.gcd n d = 1 := Classical.byContradiction fun z => hc (.inr (.inr z))
      have hn0 : n ≠ 0 := fun z => hc (.inr (.inl z))
      cases h
      have z := wr_divInt (n := n) (d := d) (s := neg? t) hg (by omega) (fun hz => absurd hz hn0)
      rw [if_neg (show ¬ d = 1 by omega)] at z
      refine ⟨?_, ⟨?_, ?_⟩⟩
      · refine Eq.trans ?_ z.1.symm
        rw [← e1, ← e3, List.append_assoc, ← e]
        cases hs : neg? t <;> rw [hs] at nb <;> exact nb
      · rw [z.2.1, ← e1]; exact e2
      · rw [z.2.2, ← e3]; exact e4
    · rw [spl_yes h1] at h
      have := spl_pos d
      cases e5 : Txt.split (tS d) "/" with
      | nil => rw [e5] at this; simp at this
      | cons x y => rw [e5] at h; cases h
/-! ### the program reads the same -/
theorem rdP_wr {q : Rat} (h : WF q) : rdP (wr q) = some q := by
  obtain ⟨e1, e2⟩ := neg_wr q
  have hq : sgQ (decide (q.num < 0)) (Rat.divInt ((q.num.natAbs : Nat) : Int) (q.den : Nat)) = q := by
    unfold sgQ
    have := natAbs_sign q
    by_cases hs : q.num < 0
    · rw [if_pos (decide_eq_true hs)] at this ⊢
      rw [Rat.neg_divInt, this, Rat.num_divInt_den]
    · rw [if_neg (by simpa using hs)] at this ⊢
      rw [this, Rat.num_divInt_den]
  have cp : cutP (body (wr q)) = (TL.numL q.num.natAbs, TL.numL q.den) := by
    rw [e2]
    by_cases hd : q.den = 1
    · rw [if_pos hd, List.append_nil, cutP_no (TL.numL_free (.inl (by decide))), hd]
      rfl
    · rw [if_neg hd, cutP_yes (TL.numL_free (.inl (by decide)))]
  unfold rdP
  rw [cp]
  dsimp only
  rw [if_pos ⟨isF_num h.n, isF_num h.d, by rw [TL.numL_val]; exact q.den_nz⟩, TL.numL_val, TL.numL_val, e1, hq, if_pos rfl]
theorem rdP_some {t : List Nat} {q : Rat} (h : rdP t = some q) : t = wr q ∧ WF q := by
  unfold rdP at h
  dsimp only at h
  split at h
  case isFalse => cases h
  rename_i hc
  obtain ⟨h1, h2, h3⟩ := hc
  split at h
  case isFalse => cases h
  rename_i hw
  cases h
  generalize sgQ (neg? t) _ = q at hw
  refine ⟨hw.symm, ?_⟩
  have e2 := (neg_wr q).2
  rw [hw] at e2
  have i1 := isF_iff.mp h1
  have i2 := isF_iff.mp h2
  by_cases hd : q.den = 1
  · rw [if_pos hd, List.append_nil] at e2
    rw [e2, cutP_no (TL.numL_free (.inl (by decide)))] at i1
    exact ⟨i1.1, by rw [hd, TL.numL_lt (by decide)]; decide⟩
  · rw [if_neg hd] at e2
    rw [e2, cutP_yes (TL.numL_free (.inl (by decide)))] at i1 i2
    exact ⟨i1.1, i2.1⟩
theorem rd_same (t : List Nat) : rdP t = rdL t := by
  cases h : rdP t with
  | some q =>
    obtain ⟨e, w⟩ := rdP_some h
    rw [e, rdL_wr w]
  | none =>
    cases h2 : rdL t with
    | none => rfl
    | some q =>
      obtain ⟨e, w⟩ := rdL_some h2
      rw [e, rdP_wr w] at h
      cases h
end Bp


set_option Elab.async false
set_option linter.all false
set_option maxRecDepth 100000
set_option maxHeartbeats 1000000
/-! Qu: what the layer's text functions say of texts given by their signs. -/
namespace Bp
open PySem PyProof.Rows
section
variable {T : CT} {S : Store}
def Asc (l : List Nat) : Prop := ∀ c ∈ l, c < 128
theorem Asc.app {a b : List Nat} (h : Asc a) (g : Asc b) : Asc (a ++ b) := fun c hc => (List.mem_append.mp hc).elim (h c) (g c)
theorem Asc.cons {c : Nat} {a : List Nat} (h : c < 128) (g : Asc a) : Asc (c :: a) := fun x hx => (List.mem_cons.mp hx).elim (fun e => e ▸ h) (g x)
theorem Asc.nil : Asc [] := fun _ h => by cases h
theorem Asc.take {a : List Nat} (h : Asc a) (n : Nat) : Asc (a.take n) := fun c hc => h c (List.mem_of_mem_take hc)
theorem Asc.drop {a : List Nat} (h : Asc a) (n : Nat) : Asc (a.drop n) := fun c hc => h c (List.mem_of_mem_drop hc)
theorem Asc.left {a b : List Nat} (h : Asc (a ++ b)) : Asc a := fun c hc => h c (List.mem_append_left _ hc)
theorem Asc.right {a b : List Nat} (h : Asc (a ++ b)) : Asc b := fun c hc => h c (List.mem_append_right _ hc)
theorem Asc.rep {c n : Nat} (h : c < 128) : Asc (List.replicate n c) := fun x hx => by rw [(List.mem_replicate.mp hx).2]; exact h
theorem Asc.num (n : Nat) : Asc (TL.numL n) := fun c hc => by have := TL.numL_digits n c hc; omega
theorem Asc.body {a : List Nat} (h : Asc a) : Asc (body a) := by
  unfold Bp.body
  split
  · exact fun c hc => h c (List.mem_of_mem_tail hc)
  · exact h
theorem szT {l : List Nat} (h : l.length ≤ 1000000) : (tS l).length ≤ sizeLine := by
  rw [tS_len]
  exact Nat.le_trans h (by rw [sizeLine_eq]; decide)
theorem rmp_eq (t : List Nat) : Txt.removeprefix (tS t) "-" = tS (body t) := by
  unfold Txt.removeprefix Builtin.Str.subAt body neg?
  have e1 : (("-" : Str).length) = 1 := rfl
  have e2 : ("-" : Str).cps = #[45] := rfl
  cases t with
  | nil => rfl
  | cons c r =>
    have e3 : ((tS (c :: r)).cps.extract 0 (0 + 1)) = #[c] := by
      show ((c :: r).toArray.extract 0 1) = #[c]
      simp
    rw [e1, e3, e2]
    by_cases h : c = 45
    · subst h
      have e4 : ((45 :: r).head? == some 45) = true := rfl
      rw [e4, if_pos (show (#[45] == #[45]) = true from rfl), if_pos rfl]
      show (if ((tS (45 :: r)).length - 1 == (tS (45 :: r)).length) = true then tS (45 :: r) else Builtin.Str.strSub (tS (45 :: r)) 1 (tS (45 :: r)).length) = tS r
      rw [tS_len, if_neg (by simp)]
      unfold Builtin.Str.strSub
      show (⟨((45 :: r).toArray.extract 1 (45 :: r).length)⟩ : Str) = ⟨r.toArray⟩
      simp
    · have e4 : ((c :: r).head? == some 45) = false := by simp [h]
      rw [e4, if_neg (by simp [h]), if_neg (by decide)]
      rfl
theorem rmp_ok {t : List Nat} (h : t.length ≤ 1000000) : rmpD [.str (tS t), .str "-"] S = .ok (.str (tS (body t))) S := by
  show (if (tS t).length ≤ sizeLine then _ else _) = _
  rw [if_pos (szT h), rmp_eq]
theorem par_ok {t : List Nat} (h : t.length ≤ 1000000) : parD [.str (tS t), .str "/"] S = .ok (.tup [.str (Txt.partition (tS t) "/").1, .str (Txt.partition (tS t) "/").2.1, .str (Txt.partition (tS t) "/").2.2]) S := by
  show (if _ then _ else _) = _
  rw [if_pos ⟨by decide, szT h⟩]
theorem spl_ok {t : List Nat} (h : t.length ≤ 1000000) : splD [.str (tS t), .str "/"] S = .ok (.ref S.length) (S ++ [.lst ((Txt.split (tS t) "/").map .str)]) := by
  show (if _ then _ else _) = _
  rw [if_pos ⟨by decide, by rw [tS_len]; exact Nat.le_trans (by omega : _ ≤ 1000002) (by rw [sizeLine_eq]; decide)⟩]
theorem dig128 : ∀ c, c < 128 → Unicode.isDigit c = decide (48 ≤ c ∧ c ≤ 57) := by decide +kernel
theorem isd_ok {w : List Nat} (h : Asc w) : isdD [.str (tS w)] S = .ok (.bl (decide (w ≠ []) && w.all (fun c => decide (48 ≤ c ∧ c ≤ 57)))) S := by
  have e : Txt.isdigit (tS w) = (decide (w ≠ []) && w.all (fun c => decide (48 ≤ c ∧ c ≤ 57))) := by
    unfold Txt.isdigit
    rw [tS_len, show (tS w).cps.all Unicode.isDigit = w.all Unicode.isDigit from List.all_toArray .., show decide (w.length > 0) = decide (w ≠ []) by cases w <;> simp]
    congr 1
    rw [Bool.eq_iff_iff, List.all_eq_true, List.all_eq_true]
    exact ⟨fun g c hc => by rw [← dig128 c (h c hc)]; exact g c hc, fun g c hc => by rw [dig128 c (h c hc)]; exact g c hc⟩
  rw [← e]
  rfl
theorem intX_ok {w : List Nat} (h : NumText.AllDigits w) (hne : w ≠ []) (hl : w.length ≤ 640) : intXD [.str (tS w)] S = .ok (.int (NumText.digitsVal w : Nat)) S := by
  have e := SX.int_S (a := w) (List.all_eq_true.mpr fun c hc => by have := h c hc; simp; omega) hne (by omega)
  show (if _ then _ else _) = _
  rw [if_pos (by rw [tS_len]; exact hl)]
  rw [show PySem.intText? (tS w) = some ((NumText.digitsVal w : Nat) : Int) from e]
theorem int_tS (i : Int) : ((toString i : String) : Str) = tS (numI i) := by
  unfold numI
  cases i with
  | ofNat n =>
    rw [if_neg (show ¬ Int.ofNat n < 0 from by simp)]
    exact SX.num_S n
  | negSucc n =>
    rw [if_pos (Int.negSucc_lt_zero n)]
    refine TL.ext_tl ?_
    rw [TL.tl_ofString]
    show ("-" ++ Nat.repr (n + 1)).toList.map Char.toNat = 45 :: TL.numL (n + 1)
    rw [String.toList_append, List.map_append, Nat.toList_repr]
    rfl
theorem strI_ok {i : Int} (h : lg i < 1920) : strD T [.int i] S = .ok (.str (tS (numI i))) S := by rw [← int_tS]; exact str_i h
theorem fmtI_ok {i : Int} (h : lg i < 1920) : fmtD (.int i) S = .ok (.str (tS (numI i))) S := by
  rw [← int_tS]
  show (if lg i < 1920 then _ else _) = _
  rw [if_pos h]
theorem catT_ok {a b : List Nat} (h : a.length + b.length ≤ 1000000) : opD T .Add (.str (tS a)) (.str (tS b)) S = .ok (.str (tS (a ++ b))) S := by
  rw [ops_add (by rw [tS_len, tS_len]; exact szK h), tS_cat]
theorem slTo {l : List Nat} {i : Int} (h : l.length ≤ 1000000) (hi : 0 ≤ i) : slD (.str (tS l)) none (some i) S = .ok (.str (tS (l.take i.toNat))) S := by
  show (if _ then _ else _) = _
  rw [if_pos (szT h), SX.slice_to hi]
theorem slFrom {l : List Nat} {i : Int} (h : l.length ≤ 1000000) (hi : 0 ≤ i) : slD (.str (tS l)) (some i) none S = .ok (.str (tS (l.drop i.toNat))) S := by
  show (if _ then _ else _) = _
  rw [if_pos (szT h), SX.slice_from hi]
theorem lenT {l : List Nat} (h : l.length ≤ 1000000) : lenD [.str (tS l)] S = .ok (.int l.length) S := by
  rw [len_str (by rw [tS_len]; exact h), tS_len]
theorem mul1 {c : Nat} {n : Int} (h0 : 0 < n) (h1 : n < 1000000) : mulS (.str (tS [c])) (.int n) S = .ok (.str (tS (List.replicate n.toNat c))) S := by
  have e : Txt.mul (tS [c]) n = tS (List.replicate n.toNat c) := by
    unfold Txt.mul
    rw [if_neg (by omega)]
    by_cases h : n = 1
    · subst h
      rfl
    · rw [if_neg (by simp [h, tS_len])]
      have : ∀ (k : Nat) (a : List Nat), (List.replicate k (tS [c]).cps).foldl (· ++ ·) a.toArray = (a ++ List.replicate k c).toArray := by
        intro k
        induction k with
        | zero => intro a; simp
        | succ k ih =>
          intro a
          rw [List.replicate_succ, List.foldl_cons]
          have e2 : a.toArray ++ (tS [c]).cps = (a ++ [c]).toArray := by
            show a.toArray ++ [c].toArray = _
            simp
          rw [e2, ih, List.append_assoc, List.replicate_succ]
          rfl
      have z := this n.toNat []
      show (⟨_⟩ : Str) = _
      rw [show (#[] : Array Nat) = ([] : List Nat).toArray from rfl, z]
      rfl
  show (if _ then _ else _) = _
  rw [if_pos ⟨h0, h1, by rw [tS_len]; exact Nat.one_pos, by rw [tS_len]; simp; omega⟩, e]
theorem eqT {a b : List Nat} : cmpD T .Eq (.str (tS a)) (.str (tS b)) S = .ok (.bl (decide (a = b))) S := by
  rw [cms_eq]
  congr 2
  exact decide_eq_decide.mpr ⟨tS_inj, fun h => h ▸ rfl⟩
theorem neT {a b : List Nat} : cmpD T .NotEq (.str (tS a)) (.str (tS b)) S = .ok (.bl (!decide (a = b))) S := by
  rw [cms_ne]
  congr 3
  exact decide_eq_decide.mpr ⟨tS_inj, fun h => h ▸ rfl⟩
theorem lg_len {i : Int} {k : Nat} (h : i.natAbs < 10 ^ k) (hk : 0 < k) : (numI i).length ≤ k + 1 := by
  have := TL.numL_len hk h
  unfold numI
  split
  · simp; omega
  · omega
theorem Asc.numI (i : Int) : Asc (numI i) := by
  unfold Bp.numI
  split
  · exact .cons (by decide) (.num _)
  · exact .num _
theorem Asc.wr (q : Rat) : Asc (wr q) := by
  unfold Bp.wr
  refine .app (.numI _) ?_
  split
  · exact .nil
  · exact .cons (by decide) (.num _)
theorem lg_num {n k : Nat} (h : (TL.numL n).length ≤ k) : n < 10 ^ k := by
  refine Nat.lt_of_lt_of_le ?_ (Nat.pow_le_pow_right (by decide) h)
  clear h
  induction n using Nat.strongRecOn with
  | _ n ih =>
    by_cases h : n < 10
    · rw [TL.numL_lt h]; exact h
    · rw [TL.numL_step (by omega), List.length_append, List.length_singleton, Nat.pow_succ]
      have := ih (n / 10) (by omega)
      omega
end
end Bp


set_option Elab.async false
set_option linter.all false
set_option maxRecDepth 100000
set_option maxHeartbeats 1000000
/-! U1: texts of numbers: the law's cells and lowest terms, Frac.__str__, Frac.read. -/
namespace Lw
open PySem L2 PyProof.Rows He Bp
local macro_rules | `(tactic| simp_all only [$ls,*]) => `(tactic| simp only [ev_mdef, ev_mdefk, ev_seq, ev_asg, ev_asgG, ev_gnm, ev_gtup, ev_gtp0, ev_gtp1, ev_gset, ev_ret, ev_retn, ev_drop, ev_ifs, ev_next, ev_brk, ev_cnt, ev_c, ev_var, ev_bin, ev_un, ev_args0, ev_args1, ev_tup, ev_lst, ev_if, ev_and, ev_or, ev_not, ev_B, ev_asB, ev_notD, ev_tru, ev_tru_b, ev_tru_i, ev_tru_n, ev_andV, ev_orV, ev_andf, ev_andt, ev_orf, ev_ort, ev_call, ev_attr, ev_new, ev_seta, ev_meth, ev_bm, ev_sl, ev_pn, ev_ps, ev_asI, ev_fnx, ev_frt, ev_fx, ev_int, ev_intb, ev_isn, ev_isn1, ev_isn2, ev_isn3, ev_isn4, ev_isn5, ev_isnn, ev_isnn1, ev_isnn2, ev_isnn3, ev_isnn4, ev_isnn5, ev_fz, ev_chain, ev_newk, ev_sup, ev_zip, ev_enum, ev_yes, ev_min, ev_max, ev_ival, ev_it_t, ev_it_r, ev_it_s, List.map_cons, List.map_nil, List.length_cons, List.length_nil, List.replicate, List.cons_append, List.nil_append, List.set_cons_succ, List.set_cons_zero, List.getElem?_cons_succ, List.getElem?_cons_zero, Res.bind_ok, onR_ok, opi_add, opi_sub, cmi_lt, cmi_le, cmi_gt, cmi_ge, cmi_eq, cmi_ne, cms_eq, cms_ne, cmb_eq, cmb_ne, negI, absI, ix_0, ix_1, ix_2, ix_3, ixr0, ixr1, ixr2, ixr3, len_tup, len_rl, len_sc, tuple_rl, tuple_tup, list_rl, list_tup, list_sc, if_true, if_false, Bool.false_eq_true, Bool.not_false, Bool.not_true, decide_true, decide_false, set_last, get_last, gz_bl, gz_int, gz_str, gz_non, ne_eq, reduceIte, $ls,*])
section
variable {T : CT} {S S' U : Store} {p q : Rat} {i j : Int} {l r : D} {t : List Nat}
theorem ixP0 : ixD (eP q) (.int 0) S = .ok (.int q.num) S := ix_0
theorem ixP1 : ixD (eP q) (.int 1) S = .ok (.int q.den) S := ix_1
theorem lgn {k : Nat} (h : Sz k p) : lg p.num ≤ k := h.1
theorem lgd {k : Nat} (h : Sz k p) : lg (p.den : Int) ≤ k := h.2
theorem abs_nat (a : Int) : (if a < 0 then -a else a) = (a.natAbs : Int) := by split <;> omega
theorem at_num_q (t : Tab T) : attrD T n_num (eQ q) S = .ok (.int q.num) S := at_num t
theorem at_den_q (t : Tab T) : attrD T n_den (eQ q) S = .ok (.int q.den) S := at_den t
theorem is_q (t : Tab T) : isiD T [eQ q, .glob n_Frac] S = .ok (.bl true) S := is_ff t
theorem low_pos {n d : Int} (hd : 0 < d) : n.fdiv ((Nat.gcd n.natAbs d.natAbs : Nat) : Int) = (Rat.divInt n d).num ∧ d.fdiv ((Nat.gcd n.natAbs d.natAbs : Nat) : Int) = (Rat.divInt n d).den := by
  have h0 : d ≠ 0 := by omega
  have hs : sg n d = ((Nat.gcd n.natAbs d.natAbs : Nat) : Int) := by unfold sg; rw [if_neg (by omega)]
  rw [← hs]
  exact ⟨sg_num h0, sg_den h0⟩
theorem at_of {α : Type} {xs : List α} {j : Nat} (h : j < xs.length) : ∃ x, xs[j]? = some x := ⟨xs[j], List.getElem?_eq_getElem h⟩
theorem opi_mulB (h1 : -1000000000000000000000 < i) (h2 : i < 1000000000000000000000) (h3 : -1000000000000000000000 < j) (h4 : j < 1000000000000000000000) : opD T .Mult (.int i) (.int j) S = .ok (.int (i * j)) S := by
  have a := lg_le (i := i) (k := 80) (by omega) (by omega)
  have b := lg_le (i := j) (k := 80) (by omega) (by omega)
  exact opi_mul (by omega)
theorem opi_fdivB (h0 : j ≠ 0) (h3 : -1000000000000000000000 < j) (h4 : j < 1000000000000000000000) : opD T .FloorDiv (.int i) (.int j) S = .ok (.int (i.fdiv j)) S := by
  have b := lg_le (i := j) (k := 80) (by omega) (by omega)
  exact opi_fdiv h0 (by omega)
theorem cell_ok {ns : List Int} (hn : ns.length ≤ 63) {k : Int} (h0 : 0 ≤ k) (h1 : k ≤ 1000) : ∃ z : Int, m__law_cell [.rl (ns.map .int), .int k] S = .ok (.int z) S ∧ 0 ≤ z ∧ z < 1000000000000000000 := by
  obtain ⟨k, rfl⟩ := Int.eq_ofNat_of_zero_le h0
  have pw := opi_pow (T := T5) (S := S) (i := 10) (j := 18) (by decide) (by decide) (by decide)
  rw [show ((10 : Int) ^ (18 : Int).toNat) = 1000000000000000000 by decide] at pw
  have ml := opi_mulB (T := T5) (S := S) (i := 5) (j := (k : Int)) (by decide) (by decide) (by omega) (by omega)
  unfold m__law_cell b__law_cell
  by_cases hk : k < ns.length
  · obtain ⟨x, hx⟩ := at_of hk
    have ck : ((k : Nat) : Int) < ((ns.length : Nat) : Int) := by omega
    have ix : ixD (.rl (ns.map .int)) (.int (k : Nat)) S = .ok (.int x) S := ix_rl (by rw [List.getElem?_map, hx]; rfl)
    have md := opi_mod (T := T5) (S := S) (i := x) (j := 1000000000000000000) (by decide)
    refine ⟨x.fmod 1000000000000000000, fn_rt (S' := S) ?_ gz_int, Int.fmod_nonneg_of_pos _ (by decide), Int.fmod_lt_of_pos _ (by decide)⟩
    apply run_rt
    apply ifs_t (S' := S)
    · simp_all only [List.length_map, ck]
    · simp_all only [ix, pw, md]
  · have ck : ¬ (((k : Nat) : Int) < ((ns.length : Nat) : Int)) := by omega
    refine ⟨5 * (k : Int) + 1, fn_rt (S' := S) ?_ gz_int, by omega, by omega⟩
    apply run_nx
    · apply ifs_f (S' := S)
      · simp_all only [List.length_map, ck]
      · rfl
    simp_all only [ml]
theorem gcd_go : ∀ (n a b : Nat) (o : Option D), b < n → ∃ o', whileF (mB (mBin (cmpD T5 .NotEq) (mVar 1) (mC (.int 0)))) lb__law_gcd_0 n [some (.int a), some (.int b), o] S = .nx [some (.int (Nat.gcd a b : Nat)), some (.int 0), o'] S
  | 0, _, _, _, h => absurd h (by omega)
  | n + 1, a, b, o, h => by
    rw [while_succ]
    by_cases hb : b = 0
    · subst hb
      exact ⟨o, by simp⟩
    · have hm := opi_mod (T := T5) (S := S) (i := a) (j := b) (by omega)
      rw [← Int.ofNat_fmod] at hm
      have hlt := Nat.mod_lt a (Nat.pos_of_ne_zero hb)
      obtain ⟨o', e⟩ := gcd_go n b (a % b) (some (.int ((a % b : Nat) : Int))) (by omega)
      refine ⟨o', ?_⟩
      have hg : Nat.gcd a b = Nat.gcd b (a % b) := by rw [Nat.gcd_comm a b, Nat.gcd_rec b a, Nat.gcd_comm]
      rw [hg, ← e]
      have hbi : ¬ ((b : Int) = 0) := by omega
      have eb : lb__law_gcd_0 [some (.int a), some (.int b), o] S = .nx [some (.int b), some (.int ((a % b : Nat) : Int)), some (.int ((a % b : Nat) : Int))] S := by
        unfold lb__law_gcd_0
        simp_all only [hm]
      simp only [ev_B, ev_bin, ev_var, List.getElem?_cons_succ, List.getElem?_cons_zero, Res.bind_ok, ev_c, cmi_ne, hbi, decide_false, Bool.not_false, ev_asB, onR_ok, if_true, eb]
theorem gcd_ok {n : Int} {d : Nat} : m__law_gcd [.int n, .int (d : Int)] S = .ok (.int ((Nat.gcd n.natAbs d : Nat) : Int)) S := by
  obtain ⟨o', e⟩ := gcd_go (S := S) (d + 2) n.natAbs d none (by omega)
  unfold m__law_gcd b__law_gcd
  have ab : (if (d : Int) < 0 then -(d : Int) else (d : Int)) = (d : Int) := if_neg (by omega)
  apply fn_rt
  · apply run_nx
    · show mAsg 0 _ _ _ = .nx [some (.int (n.natAbs : Int)), some (.int (d : Int)), none] S
      simp_all only [abs_nat]
    apply run_nx
    · show mAsg 1 _ _ _ = .nx [some (.int (n.natAbs : Int)), some (.int (d : Int)), none] S
      simp_all only [ab]
    apply run_nx
    · rw [ev_while]
      exact e
    simp_all only []
    try rfl
  · exact gz_int
theorem low_okd {n d : Int} (hd : 0 < d) (h : lg d < 9000) : m__law_low [.int n, .int d] S = .ok (eP (Rat.divInt n d)) S := by
  obtain ⟨d', rfl⟩ := Int.eq_ofNat_of_zero_le (Int.le_of_lt hd)
  have h0 : (d' : Int) ≠ 0 := by omega
  have hg := gcd_ne (n := n) h0
  have h2 : lg ((Nat.gcd n.natAbs d' : Nat) : Int) < 9000 := Nat.lt_of_le_of_lt (lg_gcd h0 (Nat.le_refl _)) h
  obtain ⟨e1, e2⟩ := low_pos (n := n) hd
  simp only [Int.natAbs_natCast] at e1 e2 hg
  have f1 := opi_fdiv (T := T5) (S := S) (i := n) (j := ((Nat.gcd n.natAbs d' : Nat) : Int)) (by omega) h2
  have f2 := opi_fdiv (T := T5) (S := S) (i := d') (j := ((Nat.gcd n.natAbs d' : Nat) : Int)) (by omega) h2
  rw [e1] at f1
  rw [e2] at f2
  unfold m__law_low b__law_low
  apply fn_rt
  · simp only [List.map_cons, List.map_nil, List.length_cons, List.length_nil, List.replicate, List.cons_append, List.nil_append, Nat.reduceAdd, Nat.reduceSub, Nat.zero_add, Nat.sub_self]
    apply run_nx
    · simp_all only [gcd_ok]
      rfl
    show mRet _ _ _ = .rt (eP (Rat.divInt n d')) S
    simp_all only [f1, f2]
    rfl
  · exact gz_same rfl
/-! ### lengths -/
theorem len_lg {i : Int} {k : Nat} (h : lg i ≤ k) : (numI i).length ≤ k + 2 := by
  have h1 : i.natAbs < 2 ^ (k + 1) := by
    by_cases hz : i.natAbs = 0
    · rw [hz]; exact Nat.pos_of_ne_zero (by simp)
    · exact (Nat.log2_lt hz).mp (by show lg i < k + 1; omega)
  have h2 : 2 ^ (k + 1) ≤ 10 ^ (k + 1) := Nat.pow_le_pow_left (by decide) _
  exact lg_len (by omega) (by omega)
theorem len_wr {k : Nat} (h : Sz k q) : (wr q).length ≤ 2 * k + 5 := by
  have h1 := len_lg h.1
  have h2 := len_lg h.2
  unfold wr
  rw [List.length_append]
  have e : numI (q.den : Int) = TL.numL q.den := by unfold numI; rw [if_neg (by omega)]; rfl
  rw [e] at h2
  split
  · simp; omega
  · simp; omega
theorem lg_fig {n k : Nat} (h : (TL.numL n).length ≤ k) : lg (n : Int) ≤ 4 * k := by
  have h1 := lg_num h
  have h2 : (10 : Nat) ^ k ≤ 16 ^ k := Nat.pow_le_pow_left (by decide) _
  have h3 : (16 : Nat) ^ k = 2 ^ (4 * k) := by rw [show (16 : Nat) = 2 ^ 4 by rfl, ← Nat.pow_mul]
  unfold lg
  rw [Int.natAbs_natCast]
  by_cases hz : n = 0
  · subst hz; simp
  · have := (Nat.log2_lt hz).mpr (show n < 2 ^ (4 * k) by omega)
    omega
theorem WF.sz (h : WF q) : Sz 160 q := ⟨by
  have := lg_fig h.n
  show q.num.natAbs.log2 ≤ 160
  exact this, lg_fig h.d⟩
/-! ### str -/
theorem js_1 {m : ME} {ms : List ME} {acc y : Str} {env : Bp.Env} (h : m env S = .ok (.str y) S) (hl : (acc ++ y).length ≤ sizeLine) : mJs (m :: ms) acc env S = mJs ms (acc ++ y) env S := by
  show (m env S).bind _ = _
  rw [h, Res.bind_ok]
  exact if_pos hl
theorem join3 {a b c : List Nat} {m1 m2 m3 : ME} {env : Bp.Env} (h1 : m1 env S = .ok (.str (tS a)) S) (h2 : m2 env S = .ok (.str (tS b)) S) (h3 : m3 env S = .ok (.str (tS c)) S) (hl : a.length + b.length + c.length ≤ 1000000) : mJoin [m1, m2, m3] env S = .ok (.str (tS (a ++ b ++ c))) S := by
  show mJs _ (tS []) env S = _
  rw [js_1 h1 (by rw [tS_cat]; exact szT (by simp; omega)), tS_cat, js_1 h2 (by rw [tS_cat]; exact szT (by simp; omega)), tS_cat, js_1 h3 (by rw [tS_cat]; exact szT (by simp; omega)), tS_cat]
  rfl
theorem fstr_ok (h : Sz 1900 q) : m_F_str [eQ q] S = .ok (.str (tS (wr q))) S := by
  have ed : numI (q.den : Int) = TL.numL q.den := by unfold numI; rw [if_neg (by omega)]; rfl
  have h1 := len_lg h.1
  have h2 := len_lg h.2
  have hn := lgn h
  have hdn := lgd h
  have s1 := fun U => strI_ok (T := T1) (S := U) (i := q.num) (by omega)
  have f1 := fun U => fmtI_ok (S := U) (i := q.num) (by omega)
  have f2 := fun U => fmtI_ok (S := U) (i := (q.den : Int)) (by omega)
  have a1 := fun U => at_num_q (T := T1) (S := U) (q := q) tab1
  have a2 := fun U => at_den_q (T := T1) (S := U) (q := q) tab1
  unfold m_F_str b_F_str
  refine fn_rt (S' := S) (d := .str (tS (wr q))) ?_ gz_str
  by_cases hd : q.den = 1
  · have c : ((q.den : Nat) : Int) = 1 := by omega
    apply run_rt
    apply ifs_t (S' := S)
    · simp_all only [a2, c]
    · simp_all only [a1, s1]
      unfold wr
      rw [if_pos hd, List.append_nil]
  · have c : ¬ ((q.den : Nat) : Int) = 1 := by omega
    apply run_nx
    · apply ifs_f (S' := S)
      · simp_all only [a2, c]
      · rfl
    · rw [ev_ret, join3 (a := numI q.num) (b := [47]) (c := TL.numL q.den) (by simp_all only [a1, f1]) rfl (by simp_all only [a2, f2, ed]) (by rw [← ed]; simp; omega), onR_ok]
      unfold wr
      rw [if_neg hd, List.append_assoc]
      rfl
theorem str_q (h : Sz 1900 q) : strD T5 [eQ q] S = .ok (.str (tS (wr q))) S := by
  show onlyS (dund T5 n_Frac 22 [eQ q] S) = _
  have e : T5.meth n_Frac 22 = some (1, m_F_str) := rfl
  unfold dund
  rw [e]
  dsimp only [List.length_cons, List.length_nil]
  rw [if_pos rfl, fstr_ok h]
  rfl
end
end Lw


set_option Elab.async false
set_option linter.all false
set_option maxRecDepth 100000
set_option maxHeartbeats 1000000
/-! U2: Frac.read. -/
namespace Lw
open PySem L2 PyProof.Rows He Bp
local macro_rules | `(tactic| simp_all only [$ls,*]) => `(tactic| simp only [ev_mdef, ev_mdefk, ev_seq, ev_asg, ev_asgG, ev_gnm, ev_gtup, ev_gtp0, ev_gtp1, ev_gset, ev_ret, ev_retn, ev_drop, ev_ifs, ev_next, ev_brk, ev_cnt, ev_c, ev_var, ev_bin, ev_un, ev_args0, ev_args1, ev_tup, ev_lst, ev_if, ev_and, ev_or, ev_not, ev_B, ev_asB, ev_notD, ev_tru, ev_tru_b, ev_tru_i, ev_tru_n, ev_andV, ev_orV, ev_andf, ev_andt, ev_orf, ev_ort, ev_call, ev_attr, ev_new, ev_seta, ev_meth, ev_bm, ev_sl, ev_pn, ev_ps, ev_asI, ev_fnx, ev_frt, ev_fx, ev_int, ev_intb, ev_isn, ev_isn1, ev_isn2, ev_isn3, ev_isn4, ev_isn5, ev_isnn, ev_isnn1, ev_isnn2, ev_isnn3, ev_isnn4, ev_isnn5, ev_fz, ev_chain, ev_newk, ev_sup, ev_zip, ev_enum, ev_yes, ev_min, ev_max, ev_ival, ev_it_t, ev_it_r, ev_it_s, List.map_cons, List.map_nil, List.length_cons, List.length_nil, List.replicate, List.cons_append, List.nil_append, List.set_cons_succ, List.set_cons_zero, List.getElem?_cons_succ, List.getElem?_cons_zero, Res.bind_ok, onR_ok, opi_add, opi_sub, cmi_lt, cmi_le, cmi_gt, cmi_ge, cmi_eq, cmi_ne, cms_eq, cms_ne, cmb_eq, cmb_ne, negI, absI, ix_0, ix_1, ix_2, ix_3, ixr0, ixr1, ixr2, ixr3, len_tup, len_rl, len_sc, tuple_rl, tuple_tup, list_rl, list_tup, list_sc, if_true, if_false, Bool.false_eq_true, Bool.not_false, Bool.not_true, decide_true, decide_false, set_last, get_last, gz_bl, gz_int, gz_str, gz_non, ne_eq, reduceIte, $ls,*])
section
variable {T : CT} {S S' U : Store} {p q : Rat} {i j : Int} {l r : D} {t w : List Nat}
theorem try_rt {T : CT} {tg : Tg} {n : Nat} {mb ms : MS} {env env1 : Bp.Env} {S S1 : Store} {e : Ex} {d : D} (h1 : mb env S = .exc e env1 S1) (hx : T.xm e.c tg = some true) (h2 : ms (env1.set n (some (.xv e.c e.ks e.vs))) S1 = .rt d S1) (hd : noX d = true) : mTryAs T n tg mb ms env S = .rt d S1 := by
  unfold mTryAs
  rw [h1]
  dsimp only
  rw [hx]
  dsimp only
  rw [h2]
  unfold sufFin
  dsimp only
  rw [if_pos ⟨hd, .inl rfl⟩]
theorem raiseF_to {c n : Nat} {ks : List Nat} {ms : List ME} {env : Bp.Env} {ds : List D} (h : mArgs ms env S = .ok ds S') (hl : ds.length = n) : mRaiseF c n ks ms env S = .exc ⟨c, ks, ds.reverse⟩ env S' := by
  unfold mRaiseF
  rw [h]
  dsimp only
  rw [if_pos hl]
abbrev BN (t : List Nat) : Ex := ⟨n_BadNumber, [n_text], [.str (tS t)]⟩
theorem isfig_ok (ha : Asc w) (hl : w.length ≤ 1000000) : m_is_figures [.str (tS w)] S = .ok (.bl (isF w)) S := by
  have e1 := fun U => lenT (S := U) hl
  have e2 := fun U => isd_ok (S := U) ha
  have ty : ∀ U, tyD "str" (.str (tS w)) U = true := fun U => rfl
  unfold m_is_figures b_is_figures
  refine fn_rt (S' := S) (d := .bl (isF w)) ?_ gz_bl
  unfold isF
  by_cases h : w.length ≤ 40
  · have c : ((w.length : Nat) : Int) ≤ 40 := by omega
    simp_all only [e1, e2, ty, c, h, Bool.true_and]
  · have c : ¬ ((w.length : Nat) : Int) ≤ 40 := by omega
    simp_all only [e1, e2, ty, c, h, Bool.false_and]
theorem body_eq : decide (body t = t) = !neg? t := by
  cases hs : neg? t with
  | false =>
    have : body t = t := by unfold body; rw [hs]; rfl
    rw [decide_eq_true this]
    rfl
  | true =>
    have : body t ≠ t := fun h => by
      unfold body at h
      rw [hs, if_pos rfl] at h
      cases t with
      | nil => cases hs
      | cons c r =>
        have := congrArg List.length h
        simp at this
    rw [decide_eq_false this]
    rfl
theorem body_len : (body t).length ≤ t.length := by
  unfold body
  split
  · simp
  · exact Nat.le_refl _
theorem cut_ok (ha : Asc t) (hl : t.length ≤ 100000) : ∃ (s : Str) (c : List Nat), parD [.str (tS (body t)), .str "/"] S = .ok (.tup [.str (tS (cutP (body t)).1), .str s, .str (tS c)]) S ∧ ((s = "" ∧ (cutP (body t)).2 = [49]) ∨ (s ≠ "" ∧ (cutP (body t)).2 = c)) ∧ Asc (cutP (body t)).1 ∧ Asc (cutP (body t)).2 ∧ (cutP (body t)).1.length ≤ 100000 ∧ (cutP (body t)).2.length ≤ 100000 := by
  have hb := body_len (t := t)
  have ab := ha.body
  have e := par_ok (S := S) (t := body t) (by omega)
  rcases cut47 (body t) with h | ⟨a, b, h1, h⟩
  · rw [par_no h] at e
    rw [cutP_no h]
    exact ⟨tS [], [], e, .inl ⟨rfl, rfl⟩, ab, .cons (by decide) .nil, by show (body t).length ≤ 100000; omega, by show 1 ≤ 100000; omega⟩
  · rw [h1, par_yes h] at e
    rw [h1, cutP_yes h]
    rw [h1] at ab hb
    rw [List.length_append, List.length_cons] at hb
    exact ⟨"/", b, e, .inr ⟨by decide +kernel, rfl⟩, ab.left, fun c hc => ab.right c (List.mem_cons_of_mem _ hc), by show a.length ≤ _; omega, by show b.length ≤ _; omega⟩
theorem neg_qq {T : CT} (t : OpT T) (hq : Sz 1900 q) : negD T (eQ q) S = .ok (eQ (-q)) S := by
  show dund T n_Frac 19 [eQ q] S = _
  unfold dund
  rw [t.m19]
  dsimp only [List.length_cons, List.length_nil]
  rw [if_pos rfl, neg_q (hq.mono (by decide))]
theorem dval_lt : ∀ (n : Nat) (w : List Nat), w.length = n → NumText.AllDigits w → NumText.digitsVal w < 10 ^ n := by
  intro n
  induction n with
  | zero =>
    intro w h _
    rw [List.length_eq_zero_iff.mp h]
    decide
  | succ n ih =>
    intro w h hd
    have hne : w ≠ [] := fun e => by rw [e] at h; cases h
    have hl : w.dropLast.length = n := by rw [List.length_dropLast, h]; rfl
    have e := List.dropLast_concat_getLast hne
    have g1 := ih w.dropLast hl (fun c hc => hd c (List.dropLast_subset _ hc))
    have g2 := hd _ (List.getLast_mem hne)
    rw [← e, NumText.digitsVal_snoc, Nat.pow_succ]
    omega
theorem val_lg {w : List Nat} (h : isF w = true) : lg ((NumText.digitsVal w : Nat) : Int) ≤ 160 := by
  have := isF_iff.mp h
  have h1 := lg_fig (n := NumText.digitsVal w) (k := 40) (by
    have h2 : NumText.digitsVal w < 10 ^ w.length := dval_lt _ _ rfl this.2.2
    exact TL.numL_len (by decide) (Nat.lt_of_lt_of_le h2 (Nat.pow_le_pow_right (by decide) this.1)))
  exact h1
def readR (t : List Nat) (S : Store) : Res D := match rdP t with
  | some q => .ok (eQ q) S
  | none => .exc (BN t) S
theorem raise_bn {env : Bp.Env} (h : env[0]? = some (some (.str (tS t)))) : mRaiseF n_BadNumber 1 [n_text] [mVar 0] env S = .exc (BN t) env S :=
  raiseF_to (ds := [.str (tS t)]) (by rw [ev_args1, ev_var, h]; rfl) rfl
theorem read_ok (ha : Asc t) (hl : t.length ≤ 100000) : m_F_read [.str (tS t)] S = readR t S := by
  obtain ⟨s, c, e1, e2, a1, a2, l1, l2⟩ := cut_ok (S := S) ha hl
  have hb := body_len (t := t)
  have e0 := rmp_ok (S := S) (t := t) (by omega)
  have ty : ∀ (z : Str) U, tyD "str" (.str z) U = true := fun z U => rfl
  have f1 := isfig_ok (S := S) a1 (by omega)
  have f2 := isfig_ok (S := S) a2 (by omega)
  have ne := neT (T := T5) (S := S) (a := body t) (b := t)
  rw [body_eq, Bool.not_not] at ne
  unfold readR rdP
  generalize cutP (body t) = w at *
  obtain ⟨a, b⟩ := w
  dsimp only at *
  unfold m_F_read b_F_read
  have st : jb_F_read_0 [some (.str (tS t)), some (.str (tS (body t))), some (.str (tS a)), some (.str s), some (.str (tS c)), none] S = .nx [some (.str (tS t)), some (.str (tS (body t))), some (.str (tS a)), some (.str s), some (.str (tS b)), none] S := by
    unfold jb_F_read_0
    rcases e2 with ⟨rfl, rfl⟩ | ⟨h, rfl⟩
    · apply ifs_t (S' := S)
      · simp_all only []
      · rfl
    · apply ifs_f (S' := S)
      · simp_all only [h]
      · rfl
  by_cases hf : isF a = true ∧ isF b = true
  · obtain ⟨hfa, hfb⟩ := hf
    have ia := isF_iff.mp hfa
    have ib := isF_iff.mp hfb
    have va := intX_ok (S := S) ia.2.2 ia.2.1 (by omega)
    have vb := intX_ok (S := S) ib.2.2 ib.2.1 (by omega)
    rw [hfa] at f1
    rw [hfb] at f2
    by_cases hz : NumText.digitsVal b = 0
    · rw [if_neg (fun h => h.2.2 hz)]
      refine fn_ex (S' := S) (e := BN t) (env := [some (.str (tS t)), some (.str (tS (body t))), some (.str (tS a)), some (.str s), some (.str (tS b)), none]) ?_ (gz_exc0 rfl)
      apply run_nx
      · simp_all only [e0, ty]
        rfl
      apply run_nx
      · simp_all only [e1, ty]
        rfl
      apply run_nx
      · exact st
      apply run_nx
      · apply ifs_f (S' := S)
        · simp_all only [f1, f2]
          try rfl
        · rfl
      apply run_ex
      apply ifs_t (S' := S)
      · simp_all only [vb, hz]
        try rfl
      · exact raise_bn rfl
    · rw [if_pos ⟨hfa, hfb, hz⟩]
      have hz2 : ((NumText.digitsVal b : Nat) : Int) ≠ 0 := by omega
      have l3 := val_lg hfb
      have l4 := val_lg hfa
      have nw := new_qq (S := S) tab5.mkr tab5.fl (n := ((NumText.digitsVal a : Nat) : Int)) (d := ((NumText.digitsVal b : Nat) : Int)) hz2 (by omega)
      have sz : Sz 170 (Rat.divInt ((NumText.digitsVal a : Nat) : Int) ((NumText.digitsVal b : Nat) : Int)) := (Sz.divInt l4 l3).mono (by decide)
      generalize Rat.divInt ((NumText.digitsVal a : Nat) : Int) ((NumText.digitsVal b : Nat) : Int) = q0 at *
      have nq := neg_qq (T := T5) (S := S) op5.toOpT (sz.mono (by decide : 170 ≤ 1900))
      have sq : Sz 1900 (sgQ (neg? t) q0) := by
        unfold sgQ
        split
        · exact (sz.mono (by decide)).neg
        · exact sz.mono (by decide)
      have sg : jb_F_read_1 [some (.str (tS t)), some (.str (tS (body t))), some (.str (tS a)), some (.str s), some (.str (tS b)), some (eQ q0)] S = .nx [some (.str (tS t)), some (.str (tS (body t))), some (.str (tS a)), some (.str s), some (.str (tS b)), some (eQ (sgQ (neg? t) q0))] S := by
        unfold jb_F_read_1 sgQ
        cases hs : neg? t with
        | true =>
          rw [hs] at ne
          apply ifs_t (S' := S)
          · simp_all only [ne]
          · simp_all only [nq]
        | false =>
          rw [hs] at ne
          apply ifs_f (S' := S)
          · simp_all only [ne]
          · rfl
      generalize sgQ (neg? t) q0 = q at *
      have sr := str_q (S := S) sq
      have nt := neT (T := T5) (S := S) (a := wr q) (b := t)
      by_cases hw : wr q = t
      · rw [decide_eq_true hw] at nt
        rw [if_pos hw]
        refine fn_rt (S' := S) (d := eQ q) ?_ (gz_same rfl)
        apply run_nx
        · simp_all only [e0, ty]
          rfl
        apply run_nx
        · simp_all only [e1, ty]
          rfl
        apply run_nx
        · exact st
        apply run_nx
        · apply ifs_f (S' := S)
          · simp_all only [f1, f2]
            try rfl
          · rfl
        apply run_nx
        · apply ifs_f (S' := S)
          · simp_all only [vb, hz2]
          · rfl
        apply run_nx
        · simp_all only [va, vb, nw]
          rfl
        apply run_nx
        · exact sg
        apply run_nx
        · apply ifs_f (S' := S)
          · simp_all only [sr, nt]
          · rfl
        simp_all only []
        try rfl
      · rw [decide_eq_false hw] at nt
        rw [if_neg hw]
        refine fn_ex (S' := S) (e := BN t) (env := [some (.str (tS t)), some (.str (tS (body t))), some (.str (tS a)), some (.str s), some (.str (tS b)), some (eQ q)]) ?_ (gz_exc0 rfl)
        apply run_nx
        · simp_all only [e0, ty]
          rfl
        apply run_nx
        · simp_all only [e1, ty]
          rfl
        apply run_nx
        · exact st
        apply run_nx
        · apply ifs_f (S' := S)
          · simp_all only [f1, f2]
            try rfl
          · rfl
        apply run_nx
        · apply ifs_f (S' := S)
          · simp_all only [vb, hz2]
          · rfl
        apply run_nx
        · simp_all only [va, vb, nw]
          rfl
        apply run_nx
        · exact sg
        apply run_ex
        apply ifs_t (S' := S)
        · simp_all only [sr, nt]
        · exact raise_bn rfl
  · rw [if_neg (fun h => hf ⟨h.1, h.2.1⟩)]
    refine fn_ex (S' := S) (e := BN t) (env := [some (.str (tS t)), some (.str (tS (body t))), some (.str (tS a)), some (.str s), some (.str (tS b)), none]) ?_ (gz_exc0 rfl)
    apply run_nx
    · simp_all only [e0, ty]
      rfl
    apply run_nx
    · simp_all only [e1, ty]
      rfl
    apply run_nx
    · exact st
    apply run_ex
    apply ifs_t (S' := S)
    · refine or_to (a := !isF a) (b := !isF b) ?_ ?_ ?_
      · simp_all only [f1]
      · simp_all only [f2]
      · cases h1 : isF a <;> cases h2 : isF b <;> first | rfl | exact absurd ⟨h1, h2⟩ hf
    · exact raise_bn rfl
end
end Lw


set_option Elab.async false
set_option linter.all false
set_option maxRecDepth 100000
set_option maxHeartbeats 1000000
/-! U3: the law's reading. -/
namespace Lw
open PySem L2 PyProof.Rows He Bp
local macro_rules | `(tactic| simp_all only [$ls,*]) => `(tactic| simp only [ev_mdef, ev_mdefk, ev_seq, ev_asg, ev_asgG, ev_gnm, ev_gtup, ev_gtp0, ev_gtp1, ev_gset, ev_ret, ev_retn, ev_drop, ev_ifs, ev_next, ev_brk, ev_cnt, ev_c, ev_var, ev_bin, ev_un, ev_args0, ev_args1, ev_tup, ev_lst, ev_if, ev_and, ev_or, ev_not, ev_B, ev_asB, ev_notD, ev_tru, ev_tru_b, ev_tru_i, ev_tru_n, ev_andV, ev_orV, ev_andf, ev_andt, ev_orf, ev_ort, ev_call, ev_attr, ev_new, ev_seta, ev_meth, ev_bm, ev_sl, ev_pn, ev_ps, ev_asI, ev_fnx, ev_frt, ev_fx, ev_int, ev_intb, ev_isn, ev_isn1, ev_isn2, ev_isn3, ev_isn4, ev_isn5, ev_isnn, ev_isnn1, ev_isnn2, ev_isnn3, ev_isnn4, ev_isnn5, ev_fz, ev_chain, ev_newk, ev_sup, ev_zip, ev_enum, ev_yes, ev_min, ev_max, ev_ival, ev_it_t, ev_it_r, ev_it_s, List.map_cons, List.map_nil, List.length_cons, List.length_nil, List.replicate, List.cons_append, List.nil_append, List.set_cons_succ, List.set_cons_zero, List.getElem?_cons_succ, List.getElem?_cons_zero, Res.bind_ok, onR_ok, opi_add, opi_sub, cmi_lt, cmi_le, cmi_gt, cmi_ge, cmi_eq, cmi_ne, cms_eq, cms_ne, cmb_eq, cmb_ne, negI, absI, ix_0, ix_1, ix_2, ix_3, ixr0, ixr1, ixr2, ixr3, len_tup, len_rl, len_sc, tuple_rl, tuple_tup, list_rl, list_tup, list_sc, if_true, if_false, Bool.false_eq_true, Bool.not_false, Bool.not_true, decide_true, decide_false, set_last, get_last, gz_bl, gz_int, gz_str, gz_non, ne_eq, reduceIte, $ls,*])
section
variable {T : CT} {S S' U : Store} {p q : Rat} {i j : Int} {l r : D} {t w : List Nat}
def figI (w : List Nat) : Int := match figL w with
  | some n => (n : Int)
  | none => -1
theorem digs_eq : ("0123456789" : Str).cps.toList = [48, 49, 50, 51, 52, 53, 54, 55, 56, 57] := rfl
theorem mem_digs {c : Nat} : decide (c ∈ ("0123456789" : Str).cps.toList) = decide (48 ≤ c ∧ c ≤ 57) := by
  rw [digs_eq]
  apply decide_eq_decide.mpr
  simp
  omega
theorem figures_ok (hl : w.length ≤ 100000) : m__law_figures [.str (tS w)] S = .ok (.int (figI w)) S := by
  have e1 := fun U => lenT (S := U) (l := w) (by omega)
  have q0 := fun U => eqT (T := T5) (S := U) (a := w) (b := [])
  unfold m__law_figures b__law_figures
  refine fn_rt (S' := S) (d := .int (figI w)) ?_ gz_int
  by_cases h1 : w = []
  · subst h1
    have : figI [] = -1 := rfl
    rw [this]
    apply run_rt
    apply ifs_t (S' := S)
    · simp only [ev_mdef, ev_mdefk, ev_seq, ev_asg, ev_asgG, ev_gnm, ev_gtup, ev_gtp0, ev_gtp1, ev_gset, ev_ret, ev_retn, ev_drop, ev_ifs, ev_next, ev_brk, ev_cnt, ev_c, ev_var, ev_bin, ev_un, ev_args0, ev_args1, ev_tup, ev_lst, ev_if, ev_and, ev_or, ev_not, ev_B, ev_asB, ev_notD, ev_tru, ev_tru_b, ev_tru_i, ev_tru_n, ev_andV, ev_orV, ev_andf, ev_andt, ev_orf, ev_ort, ev_call, ev_attr, ev_new, ev_seta, ev_meth, ev_bm, ev_sl, ev_pn, ev_ps, ev_asI, ev_fnx, ev_frt, ev_fx, ev_int, ev_intb, ev_isn, ev_isn1, ev_isn2, ev_isn3, ev_isn4, ev_isn5, ev_isnn, ev_isnn1, ev_isnn2, ev_isnn3, ev_isnn4, ev_isnn5, ev_fz, ev_chain, ev_newk, ev_sup, ev_zip, ev_enum, ev_yes, ev_min, ev_max, ev_ival, ev_it_t, ev_it_r, ev_it_s, List.map_cons, List.map_nil, List.length_cons, List.length_nil, List.replicate, List.cons_append, List.nil_append, List.set_cons_succ, List.set_cons_zero, List.getElem?_cons_succ, List.getElem?_cons_zero, Res.bind_ok, onR_ok, opi_add, opi_sub, cmi_lt, cmi_le, cmi_gt, cmi_ge, cmi_eq, cmi_ne, cms_eq, cms_ne, cmb_eq, cmb_ne, negI, absI, ix_0, ix_1, ix_2, ix_3, ixr0, ixr1, ixr2, ixr3, len_tup, len_rl, len_sc, tuple_rl, tuple_tup, list_rl, list_tup, list_sc, if_true, if_false, Bool.false_eq_true, Bool.not_false, Bool.not_true, decide_true, decide_false, set_last, get_last, gz_bl, gz_int, gz_str, gz_non, ne_eq, reduceIte, show (.str "" : D) = .str (tS []) from rfl, q0]
    · simp_all only []
      try rfl
  by_cases h2 : w.length ≤ 40
  case neg =>
    have : figI w = -1 := by
      unfold figI figL
      rw [if_neg (fun h => h2 h.2.1)]
    rw [this]
    have c : (40 : Int) < ((w.length : Nat) : Int) := by omega
    apply run_rt
    apply ifs_t (S' := S)
    · simp only [ev_mdef, ev_mdefk, ev_seq, ev_asg, ev_asgG, ev_gnm, ev_gtup, ev_gtp0, ev_gtp1, ev_gset, ev_ret, ev_retn, ev_drop, ev_ifs, ev_next, ev_brk, ev_cnt, ev_c, ev_var, ev_bin, ev_un, ev_args0, ev_args1, ev_tup, ev_lst, ev_if, ev_and, ev_or, ev_not, ev_B, ev_asB, ev_notD, ev_tru, ev_tru_b, ev_tru_i, ev_tru_n, ev_andV, ev_orV, ev_andf, ev_andt, ev_orf, ev_ort, ev_call, ev_attr, ev_new, ev_seta, ev_meth, ev_bm, ev_sl, ev_pn, ev_ps, ev_asI, ev_fnx, ev_frt, ev_fx, ev_int, ev_intb, ev_isn, ev_isn1, ev_isn2, ev_isn3, ev_isn4, ev_isn5, ev_isnn, ev_isnn1, ev_isnn2, ev_isnn3, ev_isnn4, ev_isnn5, ev_fz, ev_chain, ev_newk, ev_sup, ev_zip, ev_enum, ev_yes, ev_min, ev_max, ev_ival, ev_it_t, ev_it_r, ev_it_s, List.map_cons, List.map_nil, List.length_cons, List.length_nil, List.replicate, List.cons_append, List.nil_append, List.set_cons_succ, List.set_cons_zero, List.getElem?_cons_succ, List.getElem?_cons_zero, Res.bind_ok, onR_ok, opi_add, opi_sub, cmi_lt, cmi_le, cmi_gt, cmi_ge, cmi_eq, cmi_ne, cms_eq, cms_ne, cmb_eq, cmb_ne, negI, absI, ix_0, ix_1, ix_2, ix_3, ixr0, ixr1, ixr2, ixr3, len_tup, len_rl, len_sc, tuple_rl, tuple_tup, list_rl, list_tup, list_sc, if_true, if_false, Bool.false_eq_true, Bool.not_false, Bool.not_true, decide_true, decide_false, set_last, get_last, gz_bl, gz_int, gz_str, gz_non, ne_eq, reduceIte, show (.str "" : D) = .str (tS []) from rfl, q0, h1, e1, c]
    · simp_all only []
      try rfl
  have c2 : ¬ (40 : Int) < ((w.length : Nat) : Int) := by omega
  by_cases h3 : w.length = 1 ∨ w.head? ≠ some 48
  case neg =>
    have : figI w = -1 := by
      unfold figI figL
      rw [if_neg (fun h => h3 h.2.2.1)]
    rw [this]
    have h3a : w.length ≠ 1 := fun h => h3 (.inl h)
    have h3b : w.head? = some 48 := Classical.byContradiction fun h => h3 (.inr h)
    have hp : 0 < w.length := List.length_pos_iff.mpr h1
    have c : (1 : Int) < ((w.length : Nat) : Int) := by omega
    have ix : ∀ U, ixD (.str (tS w)) (.int 0) U = .ok (.str (tS [48])) U := fun U => ix_txt (k := 0) (by rw [tS_len]; omega) (by rw [← List.head?_eq_getElem?]; exact h3b)
    have e0 := fun U => eqT (T := T5) (S := U) (a := [48]) (b := [48])
    apply run_rt
    apply ifs_t (S' := S)
    · simp only [ev_mdef, ev_mdefk, ev_seq, ev_asg, ev_asgG, ev_gnm, ev_gtup, ev_gtp0, ev_gtp1, ev_gset, ev_ret, ev_retn, ev_drop, ev_ifs, ev_next, ev_brk, ev_cnt, ev_c, ev_var, ev_bin, ev_un, ev_args0, ev_args1, ev_tup, ev_lst, ev_if, ev_and, ev_or, ev_not, ev_B, ev_asB, ev_notD, ev_tru, ev_tru_b, ev_tru_i, ev_tru_n, ev_andV, ev_orV, ev_andf, ev_andt, ev_orf, ev_ort, ev_call, ev_attr, ev_new, ev_seta, ev_meth, ev_bm, ev_sl, ev_pn, ev_ps, ev_asI, ev_fnx, ev_frt, ev_fx, ev_int, ev_intb, ev_isn, ev_isn1, ev_isn2, ev_isn3, ev_isn4, ev_isn5, ev_isnn, ev_isnn1, ev_isnn2, ev_isnn3, ev_isnn4, ev_isnn5, ev_fz, ev_chain, ev_newk, ev_sup, ev_zip, ev_enum, ev_yes, ev_min, ev_max, ev_ival, ev_it_t, ev_it_r, ev_it_s, List.map_cons, List.map_nil, List.length_cons, List.length_nil, List.replicate, List.cons_append, List.nil_append, List.set_cons_succ, List.set_cons_zero, List.getElem?_cons_succ, List.getElem?_cons_zero, Res.bind_ok, onR_ok, opi_add, opi_sub, cmi_lt, cmi_le, cmi_gt, cmi_ge, cmi_eq, cmi_ne, cms_eq, cms_ne, cmb_eq, cmb_ne, negI, absI, ix_0, ix_1, ix_2, ix_3, ixr0, ixr1, ixr2, ixr3, len_tup, len_rl, len_sc, tuple_rl, tuple_tup, list_rl, list_tup, list_sc, if_true, if_false, Bool.false_eq_true, Bool.not_false, Bool.not_true, decide_true, decide_false, set_last, get_last, gz_bl, gz_int, gz_str, gz_non, ne_eq, reduceIte, show (.str "" : D) = .str (tS []) from rfl, show (.str "0" : D) = .str (tS [48]) from rfl, q0, h1, e1, c2, c, ix, e0]
    · simp_all only []
      try rfl
  have hp : 0 < w.length := List.length_pos_iff.mpr h1
  obtain ⟨c0, hc0⟩ := at_of hp
  have ix : ∀ U, ixD (.str (tS w)) (.int 0) U = .ok (.str (tS [c0])) U := fun U => ix_txt (k := 0) (by rw [tS_len]; omega) hc0
  have e0 := fun U => eqT (T := T5) (S := U) (a := [c0]) (b := [48])
  apply run_nx
  · apply ifs_f (S' := S)
    · by_cases h4 : w.length = 1
      · have c : ¬ (1 : Int) < ((w.length : Nat) : Int) := by omega
        simp only [ev_mdef, ev_mdefk, ev_seq, ev_asg, ev_asgG, ev_gnm, ev_gtup, ev_gtp0, ev_gtp1, ev_gset, ev_ret, ev_retn, ev_drop, ev_ifs, ev_next, ev_brk, ev_cnt, ev_c, ev_var, ev_bin, ev_un, ev_args0, ev_args1, ev_tup, ev_lst, ev_if, ev_and, ev_or, ev_not, ev_B, ev_asB, ev_notD, ev_tru, ev_tru_b, ev_tru_i, ev_tru_n, ev_andV, ev_orV, ev_andf, ev_andt, ev_orf, ev_ort, ev_call, ev_attr, ev_new, ev_seta, ev_meth, ev_bm, ev_sl, ev_pn, ev_ps, ev_asI, ev_fnx, ev_frt, ev_fx, ev_int, ev_intb, ev_isn, ev_isn1, ev_isn2, ev_isn3, ev_isn4, ev_isn5, ev_isnn, ev_isnn1, ev_isnn2, ev_isnn3, ev_isnn4, ev_isnn5, ev_fz, ev_chain, ev_newk, ev_sup, ev_zip, ev_enum, ev_yes, ev_min, ev_max, ev_ival, ev_it_t, ev_it_r, ev_it_s, List.map_cons, List.map_nil, List.length_cons, List.length_nil, List.replicate, List.cons_append, List.nil_append, List.set_cons_succ, List.set_cons_zero, List.getElem?_cons_succ, List.getElem?_cons_zero, Res.bind_ok, onR_ok, opi_add, opi_sub, cmi_lt, cmi_le, cmi_gt, cmi_ge, cmi_eq, cmi_ne, cms_eq, cms_ne, cmb_eq, cmb_ne, negI, absI, ix_0, ix_1, ix_2, ix_3, ixr0, ixr1, ixr2, ixr3, len_tup, len_rl, len_sc, tuple_rl, tuple_tup, list_rl, list_tup, list_sc, if_true, if_false, Bool.false_eq_true, Bool.not_false, Bool.not_true, decide_true, decide_false, set_last, get_last, gz_bl, gz_int, gz_str, gz_non, ne_eq, reduceIte, show (.str "" : D) = .str (tS []) from rfl, q0, h1, e1, c2, c]
      · have c : (1 : Int) < ((w.length : Nat) : Int) := by omega
        have h5 : ¬ ([c0] = [48]) := fun h => by
          rcases h3 with h3 | h3
          · exact h4 h3
          · rw [List.head?_eq_getElem?, hc0] at h3
            cases h
            exact h3 rfl
        simp only [ev_mdef, ev_mdefk, ev_seq, ev_asg, ev_asgG, ev_gnm, ev_gtup, ev_gtp0, ev_gtp1, ev_gset, ev_ret, ev_retn, ev_drop, ev_ifs, ev_next, ev_brk, ev_cnt, ev_c, ev_var, ev_bin, ev_un, ev_args0, ev_args1, ev_tup, ev_lst, ev_if, ev_and, ev_or, ev_not, ev_B, ev_asB, ev_notD, ev_tru, ev_tru_b, ev_tru_i, ev_tru_n, ev_andV, ev_orV, ev_andf, ev_andt, ev_orf, ev_ort, ev_call, ev_attr, ev_new, ev_seta, ev_meth, ev_bm, ev_sl, ev_pn, ev_ps, ev_asI, ev_fnx, ev_frt, ev_fx, ev_int, ev_intb, ev_isn, ev_isn1, ev_isn2, ev_isn3, ev_isn4, ev_isn5, ev_isnn, ev_isnn1, ev_isnn2, ev_isnn3, ev_isnn4, ev_isnn5, ev_fz, ev_chain, ev_newk, ev_sup, ev_zip, ev_enum, ev_yes, ev_min, ev_max, ev_ival, ev_it_t, ev_it_r, ev_it_s, List.map_cons, List.map_nil, List.length_cons, List.length_nil, List.replicate, List.cons_append, List.nil_append, List.set_cons_succ, List.set_cons_zero, List.getElem?_cons_succ, List.getElem?_cons_zero, Res.bind_ok, onR_ok, opi_add, opi_sub, cmi_lt, cmi_le, cmi_gt, cmi_ge, cmi_eq, cmi_ne, cms_eq, cms_ne, cmb_eq, cmb_ne, negI, absI, ix_0, ix_1, ix_2, ix_3, ixr0, ixr1, ixr2, ixr3, len_tup, len_rl, len_sc, tuple_rl, tuple_tup, list_rl, list_tup, list_sc, if_true, if_false, Bool.false_eq_true, Bool.not_false, Bool.not_true, decide_true, decide_false, set_last, get_last, gz_bl, gz_int, gz_str, gz_non, ne_eq, reduceIte, show (.str "" : D) = .str (tS []) from rfl, show (.str "0" : D) = .str (tS [48]) from rfl, q0, h1, e1, c2, c, ix, e0, h5]
    · rfl
  rcases for_itx (body := lb__law_figures_0) (g := gNm 1) (it := iVal (mVar 0)) (w := .items (w.map fun c => D.str ⟨#[c]⟩)) (env := [some (.str (tS w)), none]) (S := S) (S1 := S) (fun c : Nat => D.str ⟨#[c]⟩) w (plain_nm 1) (by rfl) (wf_items _) (fun k env S' => ∃ o : Option D, env = [some (.str (tS w)), o] ∧ S' = S ∧ (w.take k).all (fun c => decide (48 ≤ c ∧ c ≤ 57)) = true) (fun d S' => d = .int (-1) ∧ S' = S ∧ w.all (fun c => decide (48 ≤ c ∧ c ≤ 57)) = false) ⟨none, rfl, rfl, by simp⟩ (fun k c env S' hc hP => by
    obtain ⟨o, he, hS, ha⟩ := hP
    subst he hS
    have hi := in_txt (neg := true) (c := c) (z := "0123456789") (S := S')
    rw [if_pos rfl, mem_digs] at hi
    by_cases hd : 48 ≤ c ∧ c ≤ 57
    · rw [decide_eq_true hd] at hi
      refine step_nx (env' := [some (.str (tS w)), some (.str ⟨#[c]⟩)]) (S' := S') ?_ ⟨some (.str ⟨#[c]⟩), rfl, rfl, ?_⟩
      · apply turn_nx
        · rfl
        · unfold lb__law_figures_0
          simp only [List.set_cons_succ, List.set_cons_zero]
          apply ifs_f (S' := S')
          · simp_all only [hi]
          · rfl
      · rw [List.take_add_one, hc, List.all_append, ha]
        simp [hd]
    · rw [decide_eq_false hd] at hi
      refine step_rt (d := .int (-1)) (S' := S') ?_ ⟨rfl, rfl, ?_⟩
      · apply turn_rt
        · rfl
        · unfold lb__law_figures_0
          simp only [List.set_cons_succ, List.set_cons_zero]
          apply ifs_t (S' := S')
          · simp_all only [hi]
          · simp_all only []
            try rfl
      · rw [List.all_eq_false]
        exact ⟨c, List.mem_of_getElem? hc, by simp; omega⟩) with ⟨env', S2, e, o, he, hS, ha⟩ | ⟨d, S2, e, hd, hS, ha⟩
  · subst he hS
    rw [List.take_length] at ha
    have hv := intX_ok (S := S2) (allD_iff.mp ha) h1 (by omega)
    have : figI w = (NumText.digitsVal w : Nat) := by
      unfold figI figL
      rw [if_pos ⟨h1, h2, h3, ha⟩]
    rw [this]
    apply run_nx
    · exact e
    simp_all only [hv]
    try rfl
  · subst hd hS
    have : figI w = -1 := by
      unfold figI figL
      rw [if_neg (fun h => by rw [h.2.2.2] at ha; cases ha)]
    rw [this]
    exact run_rt e
theorem figI_some {n : Nat} (h : figL w = some n) : figI w = (n : Int) := by unfold figI; rw [h]
theorem figI_none (h : figL w = none) : figI w = -1 := by unfold figI; rw [h]
def rdO : Option Rat → D
  | some q => eP q
  | none => .non
theorem rdO_cl (o : Option Rat) {k : Nat} : below k (rdO o) = true := by cases o <;> rfl
def sgn (t : List Nat) : Int := if neg? t = true then -1 else 1
theorem take1 : decide (t.take 1 = [45]) = neg? t := by
  unfold neg?
  cases t with
  | nil => rfl
  | cons c r => by_cases h : c = 45 <;> simp [h]
theorem tail_body (h : neg? t = true) : t.drop 1 = body t := by
  unfold body
  rw [if_pos h]
  simp
theorem sign_ok (hl : t.length ≤ 100000) : jb__law_reading_0 [some (.str (tS t)), some (.int 1), none, none, none] S = .nx [some (.str (tS (body t))), some (.int (sgn t)), none, none, none] S := by
  have s1 := fun U => slTo (S := U) (l := t) (i := 1) (by omega) (by decide)
  have s2 := fun U => slFrom (S := U) (l := t) (i := 1) (by omega) (by decide)
  have e := fun U => eqT (T := T5) (S := U) (a := t.take 1) (b := [45])
  simp only [take1] at e
  unfold jb__law_reading_0 sgn
  cases hs : neg? t with
  | true =>
    rw [hs] at e
    have hb := tail_body hs
    apply ifs_t (S' := S)
    · simp only [ev_mdef, ev_mdefk, ev_seq, ev_asg, ev_asgG, ev_gnm, ev_gtup, ev_gtp0, ev_gtp1, ev_gset, ev_ret, ev_retn, ev_drop, ev_ifs, ev_next, ev_brk, ev_cnt, ev_c, ev_var, ev_bin, ev_un, ev_args0, ev_args1, ev_tup, ev_lst, ev_if, ev_and, ev_or, ev_not, ev_B, ev_asB, ev_notD, ev_tru, ev_tru_b, ev_tru_i, ev_tru_n, ev_andV, ev_orV, ev_andf, ev_andt, ev_orf, ev_ort, ev_call, ev_attr, ev_new, ev_seta, ev_meth, ev_bm, ev_sl, ev_pn, ev_ps, ev_asI, ev_fnx, ev_frt, ev_fx, ev_int, ev_intb, ev_isn, ev_isn1, ev_isn2, ev_isn3, ev_isn4, ev_isn5, ev_isnn, ev_isnn1, ev_isnn2, ev_isnn3, ev_isnn4, ev_isnn5, ev_fz, ev_chain, ev_newk, ev_sup, ev_zip, ev_enum, ev_yes, ev_min, ev_max, ev_ival, ev_it_t, ev_it_r, ev_it_s, List.map_cons, List.map_nil, List.length_cons, List.length_nil, List.replicate, List.cons_append, List.nil_append, List.set_cons_succ, List.set_cons_zero, List.getElem?_cons_succ, List.getElem?_cons_zero, Res.bind_ok, onR_ok, opi_add, opi_sub, cmi_lt, cmi_le, cmi_gt, cmi_ge, cmi_eq, cmi_ne, cms_eq, cms_ne, cmb_eq, cmb_ne, negI, absI, ix_0, ix_1, ix_2, ix_3, ixr0, ixr1, ixr2, ixr3, len_tup, len_rl, len_sc, tuple_rl, tuple_tup, list_rl, list_tup, list_sc, if_true, if_false, Bool.false_eq_true, Bool.not_false, Bool.not_true, decide_true, decide_false, set_last, get_last, gz_bl, gz_int, gz_str, gz_non, ne_eq, reduceIte, s1, show (.str "-" : D) = .str (tS [45]) from rfl, show (1 : Int).toNat = 1 from rfl, e]
    · apply run_nx
      · simp_all only []
        rfl
      simp_all only [s2, show (1 : Int).toNat = 1 from rfl, hb]
      try rfl
  | false =>
    rw [hs] at e
    have hb : body t = t := by unfold body; rw [if_neg (by rw [hs]; decide)]
    rw [hb]
    apply ifs_f (S' := S)
    · simp only [ev_mdef, ev_mdefk, ev_seq, ev_asg, ev_asgG, ev_gnm, ev_gtup, ev_gtp0, ev_gtp1, ev_gset, ev_ret, ev_retn, ev_drop, ev_ifs, ev_next, ev_brk, ev_cnt, ev_c, ev_var, ev_bin, ev_un, ev_args0, ev_args1, ev_tup, ev_lst, ev_if, ev_and, ev_or, ev_not, ev_B, ev_asB, ev_notD, ev_tru, ev_tru_b, ev_tru_i, ev_tru_n, ev_andV, ev_orV, ev_andf, ev_andt, ev_orf, ev_ort, ev_call, ev_attr, ev_new, ev_seta, ev_meth, ev_bm, ev_sl, ev_pn, ev_ps, ev_asI, ev_fnx, ev_frt, ev_fx, ev_int, ev_intb, ev_isn, ev_isn1, ev_isn2, ev_isn3, ev_isn4, ev_isn5, ev_isnn, ev_isnn1, ev_isnn2, ev_isnn3, ev_isnn4, ev_isnn5, ev_fz, ev_chain, ev_newk, ev_sup, ev_zip, ev_enum, ev_yes, ev_min, ev_max, ev_ival, ev_it_t, ev_it_r, ev_it_s, List.map_cons, List.map_nil, List.length_cons, List.length_nil, List.replicate, List.cons_append, List.nil_append, List.set_cons_succ, List.set_cons_zero, List.getElem?_cons_succ, List.getElem?_cons_zero, Res.bind_ok, onR_ok, opi_add, opi_sub, cmi_lt, cmi_le, cmi_gt, cmi_ge, cmi_eq, cmi_ne, cms_eq, cms_ne, cmb_eq, cmb_ne, negI, absI, ix_0, ix_1, ix_2, ix_3, ixr0, ixr1, ixr2, ixr3, len_tup, len_rl, len_sc, tuple_rl, tuple_tup, list_rl, list_tup, list_sc, if_true, if_false, Bool.false_eq_true, Bool.not_false, Bool.not_true, decide_true, decide_false, set_last, get_last, gz_bl, gz_int, gz_str, gz_non, ne_eq, reduceIte, s1, show (.str "-" : D) = .str (tS [45]) from rfl, show (1 : Int).toNat = 1 from rfl, e]
    · rfl
theorem rd_end {x y : Int} {ws z : D} {R : Option Rat} (h : (R = none ∧ (x < 0 ∨ x = 0 ∧ (sgn t < 0 ∨ y ≠ 1) ∨ ∃ m : Nat, y = m ∧ Nat.gcd x.natAbs m ≠ 1)) ∨ ∃ q, R = some q ∧ ∃ m : Nat, y = m ∧ 0 ≤ x ∧ ¬ (x = 0 ∧ (sgn t < 0 ∨ y ≠ 1)) ∧ Nat.gcd x.natAbs m = 1 ∧ q.num = sgn t * x ∧ (q.den : Int) = y) (hx : lg x ≤ 1000) :
    mSeq (mIfS (mOr (mB (mBin (cmpD T5 .Lt) (mVar 3) (mC (.int 0)))) (mAnd (mB (mBin (cmpD T5 .Eq) (mVar 3) (mC (.int 0)))) (mOr (mB (mBin (cmpD T5 .Lt) (mVar 1) (mC (.int 0)))) (mB (mBin (cmpD T5 .NotEq) (mVar 4) (mC (.int 1))))))) (mRet (mC .non)) (mNext)) (mSeq (mIfS (mB (mBin (cmpD T5 .NotEq) (mCall m__law_gcd [mVar 3, mVar 4]) (mC (.int 1)))) (mRet (mC .non)) (mNext)) (mRet (mTup [mBin (opD T5 .Mult) (mVar 1) (mVar 3), mVar 4]))) [some (z), some (.int (sgn t)), some (ws), some (.int x), some (.int y)] S = .rt (rdO R) S := by
  have tst : mOr (mB (mBin (cmpD T5 .Lt) (mVar 3) (mC (.int 0)))) (mAnd (mB (mBin (cmpD T5 .Eq) (mVar 3) (mC (.int 0)))) (mOr (mB (mBin (cmpD T5 .Lt) (mVar 1) (mC (.int 0)))) (mB (mBin (cmpD T5 .NotEq) (mVar 4) (mC (.int 1)))))) [some (z), some (.int (sgn t)), some (ws), some (.int x), some (.int y)] S = .ok (decide (x < 0 ∨ x = 0 ∧ (sgn t < 0 ∨ y ≠ 1))) S := by
    refine or_to (a := decide (x < 0)) (b := decide (x = 0 ∧ (sgn t < 0 ∨ y ≠ 1))) ?_ ?_ ?_
    · simp_all only []
    · refine and_to (a := decide (x = 0)) (b := decide (sgn t < 0 ∨ y ≠ 1)) ?_ ?_ ?_
      · simp_all only []
      · refine or_to (a := decide (sgn t < 0)) (b := !decide (y = 1)) ?_ ?_ ?_
        · simp_all only []
        · simp_all only []
        · by_cases a : sgn t < 0 <;> by_cases b : y = 1 <;> simp [a, b]
      · by_cases a : x = 0 <;> simp [a]
    · by_cases a : x < 0 <;> simp [a]
  by_cases hc : x < 0 ∨ x = 0 ∧ (sgn t < 0 ∨ y ≠ 1)
  · rw [decide_eq_true hc] at tst
    have hR : R = none := by
      rcases h with ⟨h, _⟩ | ⟨q, h, m, hm, h1, h2, _⟩
      · exact h
      · rcases hc with hc | hc
        · omega
        · exact absurd hc h2
    subst hR
    apply run_rt
    apply ifs_t tst
    simp_all only []
    try rfl
  · rw [decide_eq_false hc] at tst
    apply run_nx
    · exact ifs_f tst rfl
    rcases h with ⟨h, h2⟩ | ⟨q, h, m, hm, h1, h2, h3, h4, h5⟩
    · subst h
      rcases h2 with h2 | h2 | ⟨m, hm, h2⟩
      · exact absurd (.inl h2) hc
      · exact absurd (.inr h2) hc
      subst hm
      have g := gcd_ok (S := S) (n := x) (d := m)
      have gi : ¬ (((Nat.gcd x.natAbs m : Nat) : Int) = 1) := by omega
      apply run_rt
      apply ifs_t (S' := S)
      · simp_all only [g, gi]
      · simp_all only []
        try rfl
    · subst h hm
      have g := gcd_ok (S := S) (n := x) (d := m)
      have gi : (((Nat.gcd x.natAbs m : Nat) : Int) = 1) := by omega
      have ml := opi_mul (T := T5) (S := S) (i := sgn t) (j := x) (by
        have : lg (sgn t) ≤ 1 := by unfold sgn; split <;> decide
        omega)
      apply run_nx
      · apply ifs_f (S' := S)
        · simp_all only [g, gi]
        · rfl
      · rw [← h4] at ml
        show mRet _ _ _ = .rt (.tup [.int q.num, .int q.den]) S
        rw [h5]
        simp_all only [ml]
end
end Lw


set_option Elab.async false
set_option linter.all false
set_option maxRecDepth 100000
set_option maxHeartbeats 1000000
/-! U4: the law's reading, whole; the law's comparison of a text. -/
namespace Lw
open PySem L2 PyProof.Rows He Bp
local macro_rules | `(tactic| simp_all only [$ls,*]) => `(tactic| simp only [ev_mdef, ev_mdefk, ev_seq, ev_asg, ev_asgG, ev_gnm, ev_gtup, ev_gtp0, ev_gtp1, ev_gset, ev_ret, ev_retn, ev_drop, ev_ifs, ev_next, ev_brk, ev_cnt, ev_c, ev_var, ev_bin, ev_un, ev_args0, ev_args1, ev_tup, ev_lst, ev_if, ev_and, ev_or, ev_not, ev_B, ev_asB, ev_notD, ev_tru, ev_tru_b, ev_tru_i, ev_tru_n, ev_andV, ev_orV, ev_andf, ev_andt, ev_orf, ev_ort, ev_call, ev_attr, ev_new, ev_seta, ev_meth, ev_bm, ev_sl, ev_pn, ev_ps, ev_asI, ev_fnx, ev_frt, ev_fx, ev_int, ev_intb, ev_isn, ev_isn1, ev_isn2, ev_isn3, ev_isn4, ev_isn5, ev_isnn, ev_isnn1, ev_isnn2, ev_isnn3, ev_isnn4, ev_isnn5, ev_fz, ev_chain, ev_newk, ev_sup, ev_zip, ev_enum, ev_yes, ev_min, ev_max, ev_ival, ev_it_t, ev_it_r, ev_it_s, List.map_cons, List.map_nil, List.length_cons, List.length_nil, List.replicate, List.cons_append, List.nil_append, List.set_cons_succ, List.set_cons_zero, List.getElem?_cons_succ, List.getElem?_cons_zero, Res.bind_ok, onR_ok, opi_add, opi_sub, cmi_lt, cmi_le, cmi_gt, cmi_ge, cmi_eq, cmi_ne, cms_eq, cms_ne, cmb_eq, cmb_ne, negI, absI, ix_0, ix_1, ix_2, ix_3, ixr0, ixr1, ixr2, ixr3, len_tup, len_rl, len_sc, tuple_rl, tuple_tup, list_rl, list_tup, list_sc, if_true, if_false, Bool.false_eq_true, Bool.not_false, Bool.not_true, decide_true, decide_false, set_last, get_last, gz_bl, gz_int, gz_str, gz_non, ne_eq, reduceIte, $ls,*])
section
variable {T : CT} {S S' U : Store} {p q : Rat} {i j : Int} {l r : D} {t w : List Nat}
theorem figI_lg : lg (figI w) ≤ 1000 := by
  unfold figI
  cases h : figL w with
  | none => show lg (-1) ≤ 1000; decide
  | some n =>
    obtain ⟨e, hl⟩ := figL_some h
    rw [e] at hl
    have := lg_fig hl
    show lg (n : Int) ≤ 1000
    omega
theorem sgn_if (n : Nat) : (if neg? t = true then -(n : Int) else (n : Int)) = sgn t * n := by unfold sgn; split <;> omega
theorem sgn_neg : sgn t < 0 ↔ neg? t = true := by
  unfold sgn
  split
  · rename_i h; rw [h]; simp
  · rename_i h; simp [h]
theorem sgn_abs {n : Nat} : (sgn t * (n : Int)).natAbs = n := by rw [← sgn_if]; split <;> omega
theorem rdL_1 (h : 47 ∉ body t) : rdL t = (match figL (body t) with
    | some n => if n = 0 ∧ neg? t = true then none else some (Rat.divInt (if neg? t = true then -(n : Int) else n) 1)
    | none => none) := by
  unfold rdL
  rw [spl_no h]
  try rfl
theorem rdL_2 {a b : List Nat} (e : body t = a ++ 47 :: b) (h : 47 ∉ a) (hb : 47 ∉ b) : rdL t = (match figL a, figL b with
    | some n, some d => if d < 2 ∨ n = 0 ∨ Nat.gcd n d ≠ 1 then none else some (Rat.divInt (if neg? t = true then -(n : Int) else n) d)
    | _, _ => none) := by
  unfold rdL
  rw [e, spl_yes h, spl_no hb]
  try rfl
theorem rdL_3 (h : 3 ≤ (Txt.split (tS (body t)) "/").length) : rdL t = none := by
  unfold rdL
  split
  · rename_i e; rw [e] at h; simp at h
  · rename_i e; rw [e] at h; simp at h
  · rfl
theorem reading_ok (hl : t.length ≤ 100000) : m__law_reading [.str (tS t)] S = .ok (rdO (rdL t)) S := by
  have hb := body_len (t := t)
  have sp := spl_ok (S := S) (t := body t) (by omega)
  have ty : ∀ (z : Str) U, tyD "str" (.str z) U = true := fun z U => rfl
  have gzs : gz S (.ok (.ref S.length) (S ++ [.lst ((Txt.split (tS (body t)) "/").map .str)])) = .ok (.rl ((Txt.split (tS (body t)) "/").map .str)) S := gz_new (belows_map (fun _ => rfl) _)
  unfold m__law_reading b__law_reading
  refine fn_rt (S' := S) (d := rdO (rdL t)) ?_ (gz_same (rdO_cl _))
  apply run_nx
  · simp_all only []
    rfl
  apply run_nx
  · exact sign_ok hl
  apply run_nx
  · show mAsg 2 _ _ S = .nx [some (.str (tS (body t))), some (.int (sgn t)), some (.rl ((Txt.split (tS (body t)) "/").map .str)), none, none] S
    simp_all only [ty, sp, gzs]
  rcases cut47 (body t) with h | ⟨a, b, e, h⟩
  · rw [spl_no h, rdL_1 h]
    have fg := figures_ok (S := S) (w := body t) (by omega)
    apply run_nx
    · apply ifs_f (S' := S)
      · simp_all only []
        rfl
      · rfl
    apply run_nx
    · simp_all only [fg]
      rfl
    apply run_nx
    · simp_all only []
      rfl
    apply run_nx
    · apply ifs_f (S' := S)
      · simp_all only []
        rfl
      · rfl
    refine rd_end (R := _) ?_ figI_lg
    cases hf : figL (body t) with
    | none => exact .inl ⟨rfl, .inl (by rw [figI_none hf]; decide)⟩
    | some n =>
      rw [figI_some hf]
      dsimp only
      by_cases hc : n = 0 ∧ neg? t = true
      · rw [if_pos hc]
        exact .inl ⟨rfl, .inr (.inl ⟨by omega, .inl (sgn_neg.mpr hc.2)⟩)⟩
      · rw [if_neg hc, sgn_if]
        obtain ⟨e1, e2⟩ := divInt_mk (i := sgn t * n) (d := 1) (by unfold Nat.Coprime; exact Nat.gcd_one_right _) (by decide)
        refine .inr ⟨_, rfl, 1, rfl, by omega, ?_, by simp, e1, by exact_mod_cast e2⟩
        rintro ⟨h1, h2 | h2⟩
        · exact hc ⟨by omega, sgn_neg.mp h2⟩
        · exact h2 rfl
  · rw [e, List.length_append, List.length_cons] at hb
    rw [e, spl_yes h]
    rcases cut47 b with h1 | ⟨c, d, e1, h1⟩
    · rw [spl_no h1, rdL_2 e h h1]
      have fa := figures_ok (S := S) (w := a) (by omega)
      have fb := figures_ok (S := S) (w := b) (by omega)
      apply run_nx
      · apply ifs_f (S' := S)
        · simp_all only []
          rfl
        · rfl
      apply run_nx
      · simp_all only [fa]
        rfl
      apply run_nx
      · simp_all only []
        rfl
      cases hf : figL b with
      | none =>
        have c : figI b < 2 := by rw [figI_none hf]; decide
        have : (match figL a, (none : Option Nat) with
    | some n, some d => if d < 2 ∨ n = 0 ∨ Nat.gcd n d ≠ 1 then none else some (Rat.divInt (if neg? t = true then -(n : Int) else n) d)
    | _, _ => none) = none := by cases figL a <;> rfl
        rw [this]
        apply run_rt
        apply ifs_t (S' := S)
        · simp_all only []
          rfl
        · apply run_nx
          · simp_all only [fb]
            rfl
          apply ifs_t (S' := S)
          · simp_all only [c]
          · simp_all only []
            try rfl
      | some d =>
        rw [figI_some hf] at fb
        by_cases hd : d < 2
        · have c : (d : Int) < 2 := by omega
          have : (match figL a, some d with
    | some n, some d => if d < 2 ∨ n = 0 ∨ Nat.gcd n d ≠ 1 then none else some (Rat.divInt (if neg? t = true then -(n : Int) else n) d)
    | _, _ => none) = none := by
            cases figL a with
            | none => rfl
            | some n => exact if_pos (.inl hd)
          rw [this]
          apply run_rt
          apply ifs_t (S' := S)
          · simp_all only []
            rfl
          · apply run_nx
            · simp_all only [fb]
              rfl
            apply ifs_t (S' := S)
            · simp_all only [c]
            · simp_all only []
              try rfl
        · have c : ¬ (d : Int) < 2 := by omega
          apply run_nx
          · apply ifs_t (S' := S)
            · simp_all only []
              rfl
            · apply run_nx
              · simp_all only [fb]
                rfl
              apply ifs_f (S' := S)
              · simp_all only [c]
              · rfl
          refine rd_end (R := _) ?_ figI_lg
          cases hf2 : figL a with
          | none => exact .inl ⟨rfl, .inl (by rw [figI_none hf2]; decide)⟩
          | some n =>
            rw [figI_some hf2]
            dsimp only
            by_cases hn : n = 0
            · rw [if_pos (.inr (.inl hn))]
              exact .inl ⟨rfl, .inr (.inl ⟨by omega, .inr (by omega)⟩)⟩
            · by_cases hg : Nat.gcd n d = 1
              · rw [if_neg (by
                  rintro (z | z | z)
                  · exact hd z
                  · exact hn z
                  · exact z hg), sgn_if]
                obtain ⟨e1, e2⟩ := divInt_mk (i := sgn t * n) (d := d) (by unfold Nat.Coprime; rw [sgn_abs]; exact hg) (by omega)
                refine .inr ⟨_, rfl, d, rfl, by omega, fun z => hn (by omega), by simpa using hg, e1, by rw [e2]⟩
              · rw [if_pos (.inr (.inr hg))]
                exact .inl ⟨rfl, .inr (.inr ⟨d, rfl, by simpa using hg⟩)⟩
    · have h3 : 3 ≤ (Txt.split (tS (body t)) "/").length := by
        rw [e]
        exact spl_two h (by rw [e1]; simp)
      rw [rdL_3 h3]
      rw [e, spl_yes h] at h3
      have c : (2 : Int) < (((tS a :: Txt.split (tS b) "/").map D.str).length : Nat) := by
        rw [List.length_map]
        omega
      apply run_rt
      apply ifs_t (S' := S)
      · rw [ev_B, ev_bin]
        simp only [ev_call, ev_args1, ev_args0, ev_var, List.getElem?_cons_succ, List.getElem?_cons_zero, Res.bind_ok, len_rl, ev_c, cmi_gt, c, decide_true, ev_asB]
      · simp_all only []
        try rfl
end
end Lw


set_option Elab.async false
set_option linter.all false
set_option maxRecDepth 100000
set_option maxHeartbeats 1000000
/-! U5: the program's answer is the law's, at every plain text. -/
namespace Lw
open PySem L2 PyProof.Rows He Bp
local macro_rules | `(tactic| simp_all only [$ls,*]) => `(tactic| simp only [ev_mdef, ev_mdefk, ev_seq, ev_asg, ev_asgG, ev_gnm, ev_gtup, ev_gtp0, ev_gtp1, ev_gset, ev_ret, ev_retn, ev_drop, ev_ifs, ev_next, ev_brk, ev_cnt, ev_c, ev_var, ev_bin, ev_un, ev_args0, ev_args1, ev_tup, ev_lst, ev_if, ev_and, ev_or, ev_not, ev_B, ev_asB, ev_notD, ev_tru, ev_tru_b, ev_tru_i, ev_tru_n, ev_andV, ev_orV, ev_andf, ev_andt, ev_orf, ev_ort, ev_call, ev_attr, ev_new, ev_seta, ev_meth, ev_bm, ev_sl, ev_pn, ev_ps, ev_asI, ev_fnx, ev_frt, ev_fx, ev_int, ev_intb, ev_isn, ev_isn1, ev_isn2, ev_isn3, ev_isn4, ev_isn5, ev_isnn, ev_isnn1, ev_isnn2, ev_isnn3, ev_isnn4, ev_isnn5, ev_fz, ev_chain, ev_newk, ev_sup, ev_zip, ev_enum, ev_yes, ev_min, ev_max, ev_ival, ev_it_t, ev_it_r, ev_it_s, List.map_cons, List.map_nil, List.length_cons, List.length_nil, List.replicate, List.cons_append, List.nil_append, List.set_cons_succ, List.set_cons_zero, List.getElem?_cons_succ, List.getElem?_cons_zero, Res.bind_ok, onR_ok, opi_add, opi_sub, cmi_lt, cmi_le, cmi_gt, cmi_ge, cmi_eq, cmi_ne, cms_eq, cms_ne, cmb_eq, cmb_ne, negI, absI, ix_0, ix_1, ix_2, ix_3, ixr0, ixr1, ixr2, ixr3, len_tup, len_rl, len_sc, tuple_rl, tuple_tup, list_rl, list_tup, list_sc, if_true, if_false, Bool.false_eq_true, Bool.not_false, Bool.not_true, decide_true, decide_false, set_last, get_last, gz_bl, gz_int, gz_str, gz_non, ne_eq, reduceIte, $ls,*])
section
variable {T : CT} {S S' U : Store} {p q : Rat} {i j : Int} {l r : D} {t w : List Nat}
theorem integer_ok : m__law_integer [.int i, .int i] S = .ok (.bl true) S := by
  unfold m__law_integer b__law_integer
  refine fn_rt (S' := S) (d := .bl true) ?_ gz_bl
  have h1 : ∀ T, isiD T5 [.int i, .ty "int"] T = .ok (.bl true) T := fun T => is_ii tab5
  have h2 : ∀ T, isiD T5 [.int i, .ty "bool"] T = .ok (.bl false) T := fun T => is_ib tab5
  have h3 : ∀ T, notD (.bl false) T = .ok (.bl true) T := fun T => rfl
  simp_all only [h1, h2, h3]
  try rfl
theorem lis_ok : m__law_is [eQ q, eP q] S = .ok (.bl true) S := by
  have a1 := fun U => at_num_q (T := T5) (S := U) (q := q) tab5
  have a2 := fun U => at_den_q (T := T5) (S := U) (q := q) tab5
  have a3 := fun U => is_q (T := T5) (S := U) (q := q) tab5
  have i1 := fun U => ixP0 (q := q) (S := U)
  have i2 := fun U => ixP1 (q := q) (S := U)
  unfold m__law_is b__law_is
  refine fn_rt (S' := S) (d := .bl true) ?_ gz_bl
  apply run_nx
  · apply ifs_f (S' := S)
    · simp_all only [a3]
    · rfl
  simp_all only [a1, a2, i1, i2, integer_ok]
  try rfl
theorem text_ok (h : Sz 1900 q) : m__law_text [eP q] S = .ok (.str (tS (wr q))) S := by
  have hn := lgn h
  have hdn := lgd h
  have ed : numI (q.den : Int) = TL.numL q.den := by unfold numI; rw [if_neg (by omega)]; rfl
  have l1 := len_lg h.1
  have l2 := len_lg h.2
  rw [ed] at l2
  have s1 := fun U => strI_ok (T := T5) (S := U) (i := q.num) (by omega)
  have s2 := fun U => strI_ok (T := T5) (S := U) (i := (q.den : Int)) (by omega)
  rw [ed] at s2
  have i1 := fun U => ixP0 (q := q) (S := U)
  have i2 := fun U => ixP1 (q := q) (S := U)
  have c1 := fun U => catT_ok (T := T5) (S := U) (a := numI q.num) (b := [47]) (by simp; omega)
  have c2 := fun U => catT_ok (T := T5) (S := U) (a := numI q.num ++ [47]) (b := TL.numL q.den) (by simp; omega)
  unfold m__law_text b__law_text
  refine fn_rt (S' := S) (d := .str (tS (wr q))) ?_ gz_str
  apply run_nx
  · simp_all only [i1, s1]
    rfl
  apply run_nx
  · show jb__law_text_0 [some (eP q), some (.str (tS (numI q.num)))] S = .nx [some (eP q), some (.str (tS (wr q)))] S
    unfold jb__law_text_0 wr
    by_cases hd : q.den = 1
    · have c : ((q.den : Nat) : Int) = 1 := by omega
      rw [if_pos hd, List.append_nil]
      apply ifs_f (S' := S)
      · simp_all only [i2, c]
      · rfl
    · have c : ¬ ((q.den : Nat) : Int) = 1 := by omega
      rw [if_neg hd]
      apply ifs_t (S' := S)
      · simp_all only [i2, c]
      · simp only [ev_mdef, ev_mdefk, ev_seq, ev_asg, ev_asgG, ev_gnm, ev_gtup, ev_gtp0, ev_gtp1, ev_gset, ev_ret, ev_retn, ev_drop, ev_ifs, ev_next, ev_brk, ev_cnt, ev_c, ev_var, ev_bin, ev_un, ev_args0, ev_args1, ev_tup, ev_lst, ev_if, ev_and, ev_or, ev_not, ev_B, ev_asB, ev_notD, ev_tru, ev_tru_b, ev_tru_i, ev_tru_n, ev_andV, ev_orV, ev_andf, ev_andt, ev_orf, ev_ort, ev_call, ev_attr, ev_new, ev_seta, ev_meth, ev_bm, ev_sl, ev_pn, ev_ps, ev_asI, ev_fnx, ev_frt, ev_fx, ev_int, ev_intb, ev_isn, ev_isn1, ev_isn2, ev_isn3, ev_isn4, ev_isn5, ev_isnn, ev_isnn1, ev_isnn2, ev_isnn3, ev_isnn4, ev_isnn5, ev_fz, ev_chain, ev_newk, ev_sup, ev_zip, ev_enum, ev_yes, ev_min, ev_max, ev_ival, ev_it_t, ev_it_r, ev_it_s, List.map_cons, List.map_nil, List.length_cons, List.length_nil, List.replicate, List.cons_append, List.nil_append, List.set_cons_succ, List.set_cons_zero, List.getElem?_cons_succ, List.getElem?_cons_zero, Res.bind_ok, onR_ok, opi_add, opi_sub, cmi_lt, cmi_le, cmi_gt, cmi_ge, cmi_eq, cmi_ne, cms_eq, cms_ne, cmb_eq, cmb_ne, negI, absI, ix_0, ix_1, ix_2, ix_3, ixr0, ixr1, ixr2, ixr3, len_tup, len_rl, len_sc, tuple_rl, tuple_tup, list_rl, list_tup, list_sc, if_true, if_false, Bool.false_eq_true, Bool.not_false, Bool.not_true, decide_true, decide_false, set_last, get_last, gz_bl, gz_int, gz_str, gz_non, ne_eq, reduceIte, i2, s2, show (.str "/" : D) = .str (tS [47]) from rfl, c1, c2, List.append_assoc]
        try rfl
  simp_all only []
  try rfl
theorem x_bn (z : Str) (T : Store) : isiF XF T5 [.xv n_BadNumber [n_text] [.str z], .glob n_BadNumber] T = .ok (.bl true) T := id (by kernel_rfl)
theorem x_bnz (z : Str) (T : Store) : isiF XF T5 [.xv n_BadNumber [n_text] [.str z], .glob n_DivisionByZero] T = .ok (.bl false) T := id (by kernel_rfl)
theorem x_bnv (z : Str) (T : Store) : isiF XF T5 [.xv n_BadNumber [n_text] [.str z], .ty "ValueError"] T = .ok (.bl true) T := id (by kernel_rfl)
theorem ax_bn {env : Bp.Env} {z : Str} (h : env[3]? = some (some (.xv n_BadNumber [n_text] [.str z]))) : mAttrX XF n_text (mVar 3) env S = .ok (.str z) S := by
  unfold mAttrX
  rw [ev_var, h]
  kernel_rfl
theorem is_str (z : Str) (U : Store) : isiD T5 [.str z, .ty "str"] U = .ok (.bl true) U := id (by kernel_rfl)
theorem xm_bn : T5.xm n_BadNumber (.c n_BestError) = some true := by kernel_rfl
theorem cmpX_s (z : Str) (U : Store) : cmpX T5 .Eq (.str z) (.str z) U = .ok (.bl true) U := by
  have : (decide (z = z)) = true := decide_eq_true rfl
  show Res.ok (D.bl (decide (z = z))) U = _
  rw [this]
theorem reads_ok (ha : Asc t) (hl : t.length ≤ 100000) : m__law_reads [.str (tS t)] S = .ok (.bl true) S := by
  have rd := reading_ok (S := S) hl
  have rp := read_ok (S := S) ha hl
  unfold readR at rp
  rw [rd_same] at rp
  unfold m__law_reads b__law_reads
  refine fn_rt (S' := S) (d := .bl true) ?_ gz_bl
  cases h : rdL t with
  | some q =>
    obtain ⟨e, wf⟩ := rdL_some h
    have sz := WF.sz wf
    have st := str_q (S := S) (q := q) (sz.mono (by decide))
    rw [← e] at st
    have q0 := eqT (T := T5) (S := S) (a := t) (b := t)
    rw [decide_eq_true rfl] at q0
    rw [h] at rd rp
    have rd : m__law_reading [.str (tS t)] S = .ok (eP q) S := rd
    have rp : m_F_read [.str (tS t)] S = .ok (eQ q) S := rp
    have nn : ∀ U, isND (eP q) .non U = .ok (.bl false) U := fun U => rfl
    apply run_nx
    · simp_all only [rd]
      rfl
    apply run_nx
    · simp_all only []
      rfl
    apply run_nx
    · show mTryAs T5 3 (.c n_BestError) _ _ [some (.str (tS t)), some (eP q), some (.non), none] S = .nx [some (.str (tS t)), some (eP q), some (eQ q), none] S
      unfold mTryAs
      simp_all only [rp]
    apply run_nx
    · apply ifs_f (S' := S)
      · simp_all only [nn]
      · rfl
    simp_all only [lis_ok, st, q0]
    try rfl
  | none =>
    rw [h] at rd rp
    have rd : m__law_reading [.str (tS t)] S = .ok .non S := rd
    have rp : m_F_read [.str (tS t)] S = .exc (BN t) S := rp
    apply run_nx
    · simp_all only [rd]
      rfl
    apply run_nx
    · simp_all only []
      rfl
    apply run_rt
    refine try_rt (d := .bl true) (e := BN t) (env1 := [some (.str (tS t)), some (.non), some (.non), none]) (S1 := S) ?_ xm_bn ?_ rfl
    · simp_all only [rp]
      rfl
    · show mSeq _ _ [some (.str (tS t)), some (.non), some (.non), some (.xv n_BadNumber [n_text] [.str (tS t)])] S = _
      apply run_nx
      · apply ifs_f (S' := S)
        · simp_all only [x_bn, x_bnz]
        · rfl
      apply run_nx
      · apply ifs_f (S' := S)
        · simp_all only [x_bnv]
        · rfl
      have ax : mAttrX XF n_text (mVar 3) [some (.str (tS t)), some (.non), some (.non), some (.xv n_BadNumber [n_text] [.str (tS t)])] S = .ok (.str (tS t)) S := ax_bn rfl
      simp_all only [ax, is_str, cmpX_s]
end
end Lw


set_option Elab.async false
set_option linter.all false
set_option maxRecDepth 100000
set_option maxHeartbeats 1000000
/-! U6: the drawn fraction. -/
namespace Lw
open PySem L2 PyProof.Rows He Bp
local macro_rules | `(tactic| simp_all only [$ls,*]) => `(tactic| simp only [ev_mdef, ev_mdefk, ev_seq, ev_asg, ev_asgG, ev_gnm, ev_gtup, ev_gtp0, ev_gtp1, ev_gset, ev_ret, ev_retn, ev_drop, ev_ifs, ev_next, ev_brk, ev_cnt, ev_c, ev_var, ev_bin, ev_un, ev_args0, ev_args1, ev_tup, ev_lst, ev_if, ev_and, ev_or, ev_not, ev_B, ev_asB, ev_notD, ev_tru, ev_tru_b, ev_tru_i, ev_tru_n, ev_andV, ev_orV, ev_andf, ev_andt, ev_orf, ev_ort, ev_call, ev_attr, ev_new, ev_seta, ev_meth, ev_bm, ev_sl, ev_pn, ev_ps, ev_asI, ev_fnx, ev_frt, ev_fx, ev_int, ev_intb, ev_isn, ev_isn1, ev_isn2, ev_isn3, ev_isn4, ev_isn5, ev_isnn, ev_isnn1, ev_isnn2, ev_isnn3, ev_isnn4, ev_isnn5, ev_fz, ev_chain, ev_newk, ev_sup, ev_zip, ev_enum, ev_yes, ev_min, ev_max, ev_ival, ev_it_t, ev_it_r, ev_it_s, List.map_cons, List.map_nil, List.length_cons, List.length_nil, List.replicate, List.cons_append, List.nil_append, List.set_cons_succ, List.set_cons_zero, List.getElem?_cons_succ, List.getElem?_cons_zero, Res.bind_ok, onR_ok, opi_add, opi_sub, cmi_lt, cmi_le, cmi_gt, cmi_ge, cmi_eq, cmi_ne, cms_eq, cms_ne, cmb_eq, cmb_ne, negI, absI, ix_0, ix_1, ix_2, ix_3, ixr0, ixr1, ixr2, ixr3, len_tup, len_rl, len_sc, tuple_rl, tuple_tup, list_rl, list_tup, list_sc, if_true, if_false, Bool.false_eq_true, Bool.not_false, Bool.not_true, decide_true, decide_false, set_last, get_last, gz_bl, gz_int, gz_str, gz_non, ne_eq, reduceIte, $ls,*])
section
variable {T : CT} {S S' U : Store} {p q : Rat} {i j : Int} {l r : D} {t w : List Nat}
theorem lgT {k : Nat} (h : i.natAbs < 10 ^ k) : lg i ≤ 4 * k := by
  have h2 : (10 : Nat) ^ k ≤ 16 ^ k := Nat.pow_le_pow_left (by decide) _
  have h3 : (16 : Nat) ^ k = 2 ^ (4 * k) := by rw [show (16 : Nat) = 2 ^ 4 by rfl, ← Nat.pow_mul]
  unfold lg
  by_cases hz : i.natAbs = 0
  · rw [hz]; simp
  · have := (Nat.log2_lt hz).mpr (show i.natAbs < 2 ^ (4 * k) by omega)
    omega
theorem p10 {a b : Nat} (h : a ≤ b) : (10 : Int) ^ a ≤ 10 ^ b := by
  have := Nat.pow_le_pow_right (n := 10) (by decide) h
  exact_mod_cast this
section
variable {ns : List Int}
theorem number_ok (hn : ns.length ≤ 63) {k f : Int} (h0 : 0 ≤ k) (h1 : k ≤ 100) (f0 : 1 ≤ f) (f1 : f ≤ 41) : ∃ v : Int, m__law_number [.rl (ns.map .int), .int k, .int f] S = .ok (.int v) S ∧ 0 < v ∧ v < 10 ^ 41 := by
  have pw := fun U => opi_pow (T := T5) (S := U) (i := 10) (j := 18) (by decide) (by decide) (by decide)
  rw [show ((10 : Int) ^ (18 : Int).toNat) = 1000000000000000000 by decide] at pw
  obtain ⟨n, hf⟩ : ∃ n : Nat, f - 1 = (n : Int) := Int.eq_ofNat_of_zero_le (by omega)
  have hn40 : n ≤ 40 := by omega
  obtain ⟨env1, S1, e1, g, o4, he, hS, g0, g1⟩ := for_rng (g := gNm 4) (it := iRange1 (mC (.int 3))) (body := lb__law_number_0) (n := 3) (env := [some (.rl (ns.map .int)), some (.int k), some (.int f), some (.int 0), none, none]) (S := S) (S1 := S) (plain_nm 4) (rng1 (j := 3) rfl (by omega) (by omega)) (fun j env S' => ∃ (g : Int) (o4 : Option D), env = [some (.rl (ns.map .int)), some (.int k), some (.int f), some (.int g), o4, none] ∧ S' = S ∧ 0 ≤ g ∧ g < 10 ^ (18 * j)) ⟨0, none, rfl, rfl, by decide, by decide⟩ (fun j env S' hj ⟨g, o4, he, hS, g0, g1⟩ => by
    subst he hS
    obtain ⟨z, ez, z0, z1⟩ := cell_ok (S := S') hn (k := k + (0 + (j : Int))) (by omega) (by omega)
    have hg : lg g ≤ 4 * 54 := lgT (by
      have : (10 : Int) ^ (18 * j) ≤ 10 ^ 54 := p10 (by omega)
      have e : ((10 ^ 54 : Nat) : Int) = 10 ^ 54 := by decide
      omega)
    have ml := opi_mul (T := T5) (S := S') (i := g) (j := 1000000000000000000) (by
      have : lg 1000000000000000000 ≤ 60 := by decide
      omega)
    refine ⟨[some (.rl (ns.map .int)), some (.int k), some (.int f), some (.int (g * 1000000000000000000 + z)), some (.int (0 + (j : Int))), none], S', ?_, g * 1000000000000000000 + z, some (.int (0 + (j : Int))), rfl, rfl, by omega, ?_⟩
    · apply turn_nx
      · rfl
      · unfold lb__law_number_0
        simp only [List.set_cons_succ, List.set_cons_zero]
        simp_all only [pw, ml, ez]
        try rfl
    · rw [Nat.mul_succ, Int.pow_add]
      have : (10 : Int) ^ 18 = 1000000000000000000 := by decide
      rw [this]
      omega)
  subst he hS
  obtain ⟨env2, S2, e2, o4', he, hS⟩ := for_rng (g := gNm 4) (it := iRange1 (mBin (opD T5 .Sub) (mVar 2) (mC (.int 1)))) (body := lb__law_number_1) (n := n) (env := [some (.rl (ns.map .int)), some (.int k), some (.int f), some (.int g), o4, some (.int 1)]) (S := S1) (S1 := S1) (plain_nm 4) (rng1 (j := n) (by simp_all only [hf]) (by omega) (by omega)) (fun j env S' => ∃ (o4 : Option D), env = [some (.rl (ns.map .int)), some (.int k), some (.int f), some (.int g), o4, some (.int (10 ^ j))] ∧ S' = S1) ⟨o4, rfl, rfl⟩ (fun j env S' hj ⟨o4, he, hS⟩ => by
    subst he hS
    have hg : lg ((10 : Int) ^ j) ≤ 4 * 41 := lgT (by
      rw [Int.natAbs_pow]
      exact Nat.pow_lt_pow_right (by decide) (by omega))
    have ml := opi_mul (T := T5) (S := S') (i := 10 ^ j) (j := 10) (by
      have : lg 10 ≤ 60 := by decide
      omega)
    refine ⟨[some (.rl (ns.map .int)), some (.int k), some (.int f), some (.int g), some (.int (0 + (j : Int))), some (.int (10 ^ (j + 1)))], S', ?_, some (.int (0 + (j : Int))), rfl, rfl⟩
    apply turn_nx
    · rfl
    · unfold lb__law_number_1
      simp only [List.set_cons_succ, List.set_cons_zero]
      rw [Int.pow_succ]
      simp_all only [ml]
      try rfl
    )
  subst he hS
  have p0 : (0 : Int) < 10 ^ n := Int.pow_pos (by decide)
  have hg : lg ((10 : Int) ^ n) ≤ 4 * 41 := lgT (by
    rw [Int.natAbs_pow]
    exact Nat.pow_lt_pow_right (by decide) (by omega))
  have ml := opi_mul (T := T5) (S := S2) (i := 9) (j := 10 ^ n) (by
    have : lg 9 ≤ 60 := by decide
    omega)
  have md := opi_mod (T := T5) (S := S2) (i := g) (j := 9 * 10 ^ n) (by omega)
  have m0 := Int.fmod_nonneg_of_pos g (show 0 < 9 * (10 : Int) ^ n by omega)
  have m1 := Int.fmod_lt_of_pos g (show 0 < 9 * (10 : Int) ^ n by omega)
  refine ⟨10 ^ n + g.fmod (9 * 10 ^ n), ?_, by omega, ?_⟩
  · unfold m__law_number b__law_number
    refine fn_rt (S' := S2) ?_ gz_int
    apply run_nx
    · simp_all only []
      rfl
    apply run_nx
    · exact e1
    apply run_nx
    · simp_all only []
      rfl
    apply run_nx
    · exact e2
    simp_all only [ml, md]
    try rfl
  · have : (10 : Int) ^ (n + 1) ≤ 10 ^ 41 := p10 (by omega)
    rw [Int.pow_succ] at this
    omega
end
end
end Lw


set_option Elab.async false
set_option linter.all false
set_option maxRecDepth 100000
set_option maxHeartbeats 1000000
/-! U7: the drawn fraction, whole; short texts. -/
namespace Lw
open PySem L2 PyProof.Rows He Bp
local macro_rules | `(tactic| simp_all only [$ls,*]) => `(tactic| simp only [ev_mdef, ev_mdefk, ev_seq, ev_asg, ev_asgG, ev_gnm, ev_gtup, ev_gtp0, ev_gtp1, ev_gset, ev_ret, ev_retn, ev_drop, ev_ifs, ev_next, ev_brk, ev_cnt, ev_c, ev_var, ev_bin, ev_un, ev_args0, ev_args1, ev_tup, ev_lst, ev_if, ev_and, ev_or, ev_not, ev_B, ev_asB, ev_notD, ev_tru, ev_tru_b, ev_tru_i, ev_tru_n, ev_andV, ev_orV, ev_andf, ev_andt, ev_orf, ev_ort, ev_call, ev_attr, ev_new, ev_seta, ev_meth, ev_bm, ev_sl, ev_pn, ev_ps, ev_asI, ev_fnx, ev_frt, ev_fx, ev_int, ev_intb, ev_isn, ev_isn1, ev_isn2, ev_isn3, ev_isn4, ev_isn5, ev_isnn, ev_isnn1, ev_isnn2, ev_isnn3, ev_isnn4, ev_isnn5, ev_fz, ev_chain, ev_newk, ev_sup, ev_zip, ev_enum, ev_yes, ev_min, ev_max, ev_ival, ev_it_t, ev_it_r, ev_it_s, List.map_cons, List.map_nil, List.length_cons, List.length_nil, List.replicate, List.cons_append, List.nil_append, List.set_cons_succ, List.set_cons_zero, List.getElem?_cons_succ, List.getElem?_cons_zero, Res.bind_ok, onR_ok, opi_add, opi_sub, cmi_lt, cmi_le, cmi_gt, cmi_ge, cmi_eq, cmi_ne, cms_eq, cms_ne, cmb_eq, cmb_ne, negI, absI, ix_0, ix_1, ix_2, ix_3, ixr0, ixr1, ixr2, ixr3, len_tup, len_rl, len_sc, tuple_rl, tuple_tup, list_rl, list_tup, list_sc, if_true, if_false, Bool.false_eq_true, Bool.not_false, Bool.not_true, decide_true, decide_false, set_last, get_last, gz_bl, gz_int, gz_str, gz_non, ne_eq, reduceIte, $ls,*])
section
variable {T : CT} {S S' U : Store} {p q : Rat} {i j : Int} {l r : D} {t w : List Nat} {ns : List Int}
theorem drawn_ok (hn : ns.length ≤ 63) : ∃ q : Rat, m__law_drawn [.rl (ns.map .int)] S = .ok (eP q) S ∧ Sz 170 q := by
  obtain ⟨c0, ec0, _, _⟩ := cell_ok (S := S) hn (k := 0) (by decide) (by decide)
  obtain ⟨c4, ec4, a4, b4⟩ := cell_ok (S := S) hn (k := 4) (by decide) (by decide)
  obtain ⟨c8, ec8, a8, b8⟩ := cell_ok (S := S) hn (k := 8) (by decide) (by decide)
  have m0 := opi_mod (T := T5) (S := S) (i := c0) (j := 41) (by decide)
  have d4 := opi_fdivB (T := T5) (S := S) (i := c4) (j := 3) (by decide) (by decide) (by decide)
  have m4 := opi_mod (T := T5) (S := S) (i := c4.fdiv 3) (j := 41) (by decide)
  have d8 := opi_fdivB (T := T5) (S := S) (i := c8) (j := 18) (by decide) (by decide) (by decide)
  have m8 := opi_mod (T := T5) (S := S) (i := c8.fdiv 18) (j := 8) (by decide)
  have m3 := opi_mod (T := T5) (S := S) (i := c4) (j := 3) (by decide)
  have m2 := opi_mod (T := T5) (S := S) (i := c8) (j := 2) (by decide)
  have d2 := opi_fdivB (T := T5) (S := S) (i := c8) (j := 2) (by decide) (by decide) (by decide)
  have m9 := opi_mod (T := T5) (S := S) (i := c8.fdiv 2) (j := 9) (by decide)
  have x0 := Int.fmod_nonneg_of_pos c0 (show (0 : Int) < 41 by decide)
  have x1 := Int.fmod_lt_of_pos c0 (show (0 : Int) < 41 by decide)
  have y0 := Int.fmod_nonneg_of_pos (c4.fdiv 3) (show (0 : Int) < 41 by decide)
  have y1 := Int.fmod_lt_of_pos (c4.fdiv 3) (show (0 : Int) < 41 by decide)
  generalize hf : 1 + c0.fmod 41 = f at *
  generalize hb : 1 + (c4.fdiv 3).fmod 41 = b at *
  generalize hed : (c8.fdiv 18).fmod 8 = ed at *
  have f0 : 1 ≤ f := by omega
  have f1 : f ≤ 41 := by omega
  have b0 : 1 ≤ b := by omega
  have b1 : b ≤ 41 := by omega
  obtain ⟨fa, efa, fa0, fa1⟩ : ∃ f' : Int, jb__law_drawn_0 [some (.rl (ns.map .int)), some (.int f), some (.int b), some (.int c8), some (.int ed), none, none] S = .nx [some (.rl (ns.map .int)), some (.int f'), some (.int b), some (.int c8), some (.int ed), none, none] S ∧ 1 ≤ f' ∧ f' ≤ 41 := by
    unfold jb__law_drawn_0
    by_cases h1 : ed = 1
    · exact ⟨40, by simp_all only [h1], by decide, by decide⟩
    · by_cases h2 : ed = 5
      · exact ⟨40, by simp_all only [h1, h2] <;> rfl, by decide, by decide⟩
      · exact ⟨f, by simp_all only [h1, h2], f0, f1⟩
  obtain ⟨fb, efb, fb0, fb1⟩ : ∃ f' : Int, jb__law_drawn_1 [some (.rl (ns.map .int)), some (.int fa), some (.int b), some (.int c8), some (.int ed), none, none] S = .nx [some (.rl (ns.map .int)), some (.int f'), some (.int b), some (.int c8), some (.int ed), none, none] S ∧ 1 ≤ f' ∧ f' ≤ 41 := by
    unfold jb__law_drawn_1
    by_cases h1 : ed = 2
    · exact ⟨41, by simp_all only [h1], by decide, by decide⟩
    · exact ⟨fa, by simp_all only [h1], fa0, fa1⟩
  obtain ⟨ba, eba, ba0, ba1⟩ : ∃ f' : Int, jb__law_drawn_2 [some (.rl (ns.map .int)), some (.int fb), some (.int b), some (.int c8), some (.int ed), none, none] S = .nx [some (.rl (ns.map .int)), some (.int fb), some (.int f'), some (.int c8), some (.int ed), none, none] S ∧ 1 ≤ f' ∧ f' ≤ 41 := by
    unfold jb__law_drawn_2
    by_cases h1 : ed = 3
    · exact ⟨40, by simp_all only [h1], by decide, by decide⟩
    · by_cases h2 : ed = 5
      · exact ⟨40, by simp_all only [h1, h2] <;> rfl, by decide, by decide⟩
      · exact ⟨b, by simp_all only [h1, h2], b0, b1⟩
  obtain ⟨bb, ebb, bb0, bb1⟩ : ∃ f' : Int, jb__law_drawn_3 [some (.rl (ns.map .int)), some (.int fb), some (.int ba), some (.int c8), some (.int ed), none, none] S = .nx [some (.rl (ns.map .int)), some (.int fb), some (.int f'), some (.int c8), some (.int ed), none, none] S ∧ 1 ≤ f' ∧ f' ≤ 41 := by
    unfold jb__law_drawn_3
    by_cases h1 : ed = 4
    · exact ⟨41, by simp_all only [h1], by decide, by decide⟩
    · exact ⟨ba, by simp_all only [h1], ba0, ba1⟩
  obtain ⟨v, ev, v0, v1⟩ := number_ok (S := S) hn (k := 1) (by decide) (by decide) fb0 fb1
  obtain ⟨d, ed1, d0, d1⟩ : ∃ d : Int, jb__law_drawn_4 [some (.rl (ns.map .int)), some (.int fb), some (.int bb), some (.int c8), some (.int ed), some (.int v), some (.int 1)] S = .nx [some (.rl (ns.map .int)), some (.int fb), some (.int bb), some (.int c8), some (.int ed), some (.int v), some (.int d)] S ∧ 0 < d ∧ d < 10 ^ 41 := by
    unfold jb__law_drawn_4
    obtain ⟨v2, ev2, v20, v21⟩ := number_ok (S := S) hn (k := 5) (by decide) (by decide) bb0 bb1
    by_cases h1 : c4.fmod 3 = 0
    · exact ⟨1, by simp_all only [ec4, m3, h1], by decide, by decide⟩
    · exact ⟨v2, by simp_all only [ec4, m3, h1, ev2], v20, v21⟩
  obtain ⟨n1, en1, n10, n11⟩ : ∃ n' : Int, jb__law_drawn_5 [some (.rl (ns.map .int)), some (.int fb), some (.int bb), some (.int c8), some (.int ed), some (.int v), some (.int d)] S = .nx [some (.rl (ns.map .int)), some (.int fb), some (.int bb), some (.int c8), some (.int ed), some (.int n'), some (.int d)] S ∧ -(10 ^ 41) < n' ∧ n' < 10 ^ 41 := by
    unfold jb__law_drawn_5
    by_cases h1 : c8.fmod 2 = 1
    · exact ⟨-v, by simp_all only [m2, h1], by omega, by omega⟩
    · exact ⟨v, by simp_all only [m2, h1], by omega, by omega⟩
  obtain ⟨n2, en2, n20, n21⟩ : ∃ n' : Int, jb__law_drawn_6 [some (.rl (ns.map .int)), some (.int fb), some (.int bb), some (.int c8), some (.int ed), some (.int n1), some (.int d)] S = .nx [some (.rl (ns.map .int)), some (.int fb), some (.int bb), some (.int c8), some (.int ed), some (.int n'), some (.int d)] S ∧ -(10 ^ 41) < n' ∧ n' < 10 ^ 41 := by
    unfold jb__law_drawn_6
    by_cases h1 : (c8.fdiv 2).fmod 9 = 4
    · exact ⟨0, by simp_all only [d2, m9, h1], by decide, by decide⟩
    · exact ⟨n1, by simp_all only [d2, m9, h1], n10, n11⟩
  have e41 : ((10 ^ 41 : Nat) : Int) = 10 ^ 41 := by decide
  have ld : lg d ≤ 170 := Nat.le_trans (lgT (k := 41) (by omega)) (by decide)
  have ln : lg n2 ≤ 170 := Nat.le_trans (lgT (k := 41) (by omega)) (by decide)
  refine ⟨Rat.divInt n2 d, ?_, Sz.divInt ln ld⟩
  have lo := low_okd (S := S) (n := n2) d0 (by omega)
  unfold m__law_drawn b__law_drawn
  refine fn_rt (S' := S) (d := eP (Rat.divInt n2 d)) ?_ (gz_same rfl)
  apply run_nx
  · show mAsg 1 _ _ S = .nx [some (.rl (ns.map .int)), some (.int f), none, none, none, none, none] S
    simp_all only [ec0, m0, hf]
  apply run_nx
  · show mAsg 2 _ _ S = .nx [some (.rl (ns.map .int)), some (.int f), some (.int b), none, none, none, none] S
    simp_all only [ec4, d4, m4, hb]
  apply run_nx
  · simp_all only [ec8]
    rfl
  apply run_nx
  · show mAsg 4 _ _ S = .nx [some (.rl (ns.map .int)), some (.int f), some (.int b), some (.int c8), some (.int ed), none, none] S
    simp_all only [d8, m8, hed]
  apply run_nx
  · exact efa
  apply run_nx
  · exact efb
  apply run_nx
  · exact eba
  apply run_nx
  · exact ebb
  apply run_nx
  · simp_all only [ev]
    rfl
  apply run_nx
  · simp_all only []
    rfl
  apply run_nx
  · exact ed1
  apply run_nx
  · exact en1
  apply run_nx
  · exact en2
  simp_all only [lo]
  try rfl
/-! ### short texts -/
def shortL : List (List Nat) := [[], [45], [47], [45, 48], [48, 47, 49], [48, 48], [49, 47, 48], [48, 47, 48], [45, 47, 50], [51, 47], [47, 51], [49, 47, 50, 47, 51], [48], [45, 49, 47, 50]]
theorem short_asc : ∀ w ∈ shortL, Asc w ∧ w.length ≤ 100000 := by
  have : ∀ w ∈ shortL, (w.all fun c => decide (c < 128)) = true ∧ w.length ≤ 5 := by decide +kernel
  intro w hw
  obtain ⟨h1, h2⟩ := this w hw
  exact ⟨fun c hc => of_decide_eq_true (List.all_eq_true.mp h1 c hc), by omega⟩
theorem short_ok {k : Int} : ∃ w, m__law_short [.int k] S = .ok (.str (tS w)) S ∧ Asc w ∧ w.length ≤ 100000 := by
  have md := opi_mod (T := T5) (S := S) (i := k) (j := 14) (by decide)
  have x0 := Int.fmod_nonneg_of_pos k (show (0 : Int) < 14 by decide)
  have x1 := Int.fmod_lt_of_pos k (show (0 : Int) < 14 by decide)
  obtain ⟨z, hz⟩ := Int.eq_ofNat_of_zero_le x0
  rw [hz] at md
  obtain ⟨w, hw⟩ := at_of (xs := shortL) (j := z) (by show z < 14; omega)
  have hm := short_asc w (List.mem_of_getElem? hw)
  refine ⟨w, ?_, hm⟩
  have ix : ixD (.rl (shortL.map fun w => .str (tS w))) (.int (z : Int)) S = .ok (.str (tS w)) S := ix_rl (by rw [List.getElem?_map, hw]; rfl)
  unfold m__law_short b__law_short
  refine fn_rt (S' := S) (d := .str (tS w)) ?_ gz_str
  apply run_nx
  · show mAsg 1 _ _ S = .nx [some (.int k), some (.rl (shortL.map fun w => .str (tS w)))] S
    have g : gz S (.ok (.ref S.length) (S ++ [.lst (shortL.map fun w => .str (tS w))])) = .ok (.rl (shortL.map fun w => .str (tS w))) S := gz_new (belows_map (fun _ => rfl) _)
    simp_all only []
    show onR (gz S (.ok (.ref S.length) (S ++ [.lst (shortL.map fun w => .str (tS w))]))) _ _ = _
    rw [g]
    rfl
  simp_all only [md, ix]
  try rfl
end
end Lw


set_option Elab.async false
set_option linter.all false
set_option maxRecDepth 100000
set_option maxHeartbeats 1000000
/-! U8: expressions that make plain texts. -/
namespace Lw
open PySem L2 PyProof.Rows He Bp
section
variable {T : CT} {S S' U S0 : Store} {p q : Rat} {i j : Int} {l r : D} {t w : List Nat} {env env' : Bp.Env} {k k1 k2 n : Nat} {m ma mb : ME} {ms : List ME} {s s1 s2 : MS}
def Tx (k : Nat) (w : List Nat) : Prop := Asc w ∧ w.length ≤ k
def TE (m : ME) (env : Bp.Env) (S : Store) (k : Nat) : Prop := ∃ w, m env S = .ok (.str (tS w)) S ∧ Tx k w
theorem TE.var {x : Nat} (h : env[x]? = some (some (.str (tS w)))) (ht : Tx k w) : TE (mVar x) env S k := ⟨w, by rw [ev_var, h], ht⟩
theorem TE.lit {z : Str} (w : List Nat) (h : z = tS w) (ht : (w.all fun c => decide (c < 128)) = true) (hl : w.length ≤ k) : TE (mC (.str z)) env S k := ⟨w, by rw [h]; rfl, fun c hc => of_decide_eq_true (List.all_eq_true.mp ht c hc), hl⟩
theorem TE.add (h1 : TE ma env S k1) (h2 : TE mb env S k2) (hk : k1 + k2 ≤ 100000 := by decide) : TE (mBin (opD T .Add) ma mb) env S (k1 + k2) := by
  obtain ⟨a, e1, a1, l1⟩ := h1
  obtain ⟨b, e2, a2, l2⟩ := h2
  refine ⟨a ++ b, ?_, a1.app a2, by rw [List.length_append]; omega⟩
  rw [ev_bin, e1, Res.bind_ok, e2, Res.bind_ok, catT_ok (by omega)]
theorem TE.fz (h : TE m env S k) : TE (mFz m) env S k := by
  obtain ⟨a, e1, h1⟩ := h
  exact ⟨a, by rw [ev_fz, e1, gz_str], h1⟩
theorem TE.mono (h : TE m env S k1) (hk : k1 ≤ k := by decide) : TE m env S k := by
  obtain ⟨a, e1, h1, h2⟩ := h
  exact ⟨a, e1, h1, Nat.le_trans h2 hk⟩
theorem TE.slF (h : TE m env S k) (hi : ma env S = .ok (.int i) S) (h0 : 0 ≤ i) (hk : k ≤ 100000 := by decide) : TE (mFz (mSl m (mPs ma) mPn)) env S k := by
  obtain ⟨a, e1, h1, h2⟩ := h
  refine ⟨a.drop i.toNat, ?_, h1.drop _, by rw [List.length_drop]; omega⟩
  rw [ev_fz, ev_sl, e1, Res.bind_ok, ev_ps, hi, Res.bind_ok, ev_asI, Res.bind_ok, ev_pn, Res.bind_ok, slFrom (by omega) h0, gz_str]
theorem TE.slT (h : TE m env S k) (hi : ma env S = .ok (.int i) S) (h0 : 0 ≤ i) (hk : k ≤ 100000 := by decide) : TE (mFz (mSl m mPn (mPs ma))) env S k := by
  obtain ⟨a, e1, h1, h2⟩ := h
  refine ⟨a.take i.toNat, ?_, h1.take _, by rw [List.length_take]; omega⟩
  rw [ev_fz, ev_sl, e1, Res.bind_ok, ev_pn, Res.bind_ok, ev_ps, hi, Res.bind_ok, ev_asI, Res.bind_ok, slTo (by omega) h0, gz_str]
theorem TE.str (h : m env S = .ok (.int i) S) (hl : lg i ≤ 1000) : TE (mCall (strD T) [m]) env S 1002 := by
  refine ⟨numI i, ?_, .numI i, len_lg hl⟩
  rw [ev_call, ev_args1, h, Res.bind_ok, ev_args0, Res.bind_ok, Res.bind_ok, strI_ok (by omega)]
theorem TE.mul {c : Nat} {z : Str} (hz : z = tS [c]) (hc : c < 128) (h0 : 0 < i) (h1 : i < 100000) : TE (mBin mulS (mC (.str z)) (mC (.int i))) env S i.toNat := by
  subst hz
  refine ⟨List.replicate i.toNat c, ?_, .rep hc, by simp⟩
  rw [ev_bin, ev_c, Res.bind_ok, ev_c, Res.bind_ok, mul1 h0 (by omega)]
abbrev eS (w : List Nat) : D := .str (tS w)
def TLs (ms : List ME) (env : Bp.Env) (S : Store) : Prop := ∃ ws : List (List Nat), mArgs ms env S = .ok (ws.map eS) S ∧ ws.length = ms.length ∧ ∀ w ∈ ws, Tx 100000 w
theorem TLs.nil : TLs [] env S := ⟨[], rfl, rfl, fun w h => by cases h⟩
theorem TLs.cons (h : TE m env S k) (h2 : TLs ms env S) (hk : k ≤ 100000 := by decide) : TLs (m :: ms) env S := by
  obtain ⟨a, e1, h1, h3⟩ := h
  obtain ⟨ws, e2, h4, h5⟩ := h2
  refine ⟨a :: ws, by rw [ev_args1, e1, Res.bind_ok, e2, Res.bind_ok]; rfl, by simp [h4], fun w hw => ?_⟩
  rcases List.mem_cons.mp hw with rfl | hw
  · exact ⟨h1, by omega⟩
  · exact h5 w hw
theorem TLs.lst (h : TLs ms env S) {x : Nat} : ∃ ws : List (List Nat), mAsg x (mLst ms) env S = .nx (env.set x (some (.ref S.length))) (S ++ [.lst (ws.map eS)]) ∧ ws.length = ms.length ∧ ∀ w ∈ ws, Tx 100000 w := by
  obtain ⟨ws, e, h1, h2⟩ := h
  exact ⟨ws, by rw [ev_asg, ev_lst, e, Res.bind_ok, onR_ok], h1, h2⟩
theorem TLs.add (h : TLs ms env S) {x : Nat} {ws : List (List Nat)} (he : env[x]? = some (some (.ref n))) (hS : S[n]? = some (.lst (ws.map eS))) (hw : ∀ w ∈ ws, Tx 100000 w) (hl : ws.length ≤ 1000) (hm : ms.length ≤ 1000) : ∃ ws' : List (List Nat), mAsg x (mBin (opD T .Add) (mVar x) (mFz (mLst ms))) env S = .nx (env.set x (some (.ref S.length))) (S ++ [.lst (ws'.map eS)]) ∧ ws'.length = ws.length + ms.length ∧ ∀ w ∈ ws', Tx 100000 w := by
  obtain ⟨vs, e, h1, h2⟩ := h
  refine ⟨ws ++ vs, ?_, by rw [List.length_append, h1], fun w hw' => (List.mem_append.mp hw').elim (hw w) (h2 w)⟩
  have g : gz S (.ok (.ref S.length) (S ++ [.lst (vs.map eS)])) = .ok (.rl (vs.map eS)) S := gz_new (belows_map (fun _ => rfl) _)
  rw [ev_asg, ev_bin, ev_var, he]
  dsimp only
  rw [Res.bind_ok, ev_fz, ev_lst, e, Res.bind_ok, g, Res.bind_ok, opc_fr, cat_l (lst_f hS) lst_r (by simp; omega), onR_ok, List.map_append]
def Out (s : MS) (env : Bp.Env) (S S0 : Store) : Prop := ∃ w U, s env S = .rt (.str (tS w)) (S0 ++ U) ∧ Tx 100000 w
theorem Out.seq (h : s1 env S = .nx env' S') (h2 : Out s2 env' S' S0) : Out (mSeq s1 s2) env S S0 := by
  obtain ⟨w, U, e, ht⟩ := h2
  exact ⟨w, U, run_nx h e, ht⟩
theorem Out.rt (h : Out s1 env S S0) : Out (mSeq s1 s2) env S S0 := by
  obtain ⟨w, U, e, ht⟩ := h
  exact ⟨w, U, run_rt e, ht⟩
theorem Out.asg {x : Nat} (h : TE m env S k) (h2 : ∀ w, Tx k w → Out s2 (env.set x (some (.str (tS w)))) S S0) : Out (mSeq (mAsg x m) s2) env S S0 := by
  obtain ⟨w, e, ht⟩ := h
  exact Out.seq (by rw [ev_asg, e, onR_ok]) (h2 w ht)
theorem Out.ret (h : TE m env S k) (hS : ∃ U, S = S0 ++ U) (hk : k ≤ 100000 := by decide) : Out (mRet m) env S S0 := by
  obtain ⟨w, e, ht, hl⟩ := h
  obtain ⟨U, rfl⟩ := hS
  exact ⟨w, U, by rw [ev_ret, e, onR_ok], ht, by omega⟩
theorem Out.lst {x : Nat} (h : TLs ms env S) (h2 : ∀ ws : List (List Nat), ws.length = ms.length → (∀ w ∈ ws, Tx 100000 w) → Out s2 (env.set x (some (.ref S.length))) (S ++ [.lst (ws.map eS)]) S0) : Out (mSeq (mAsg x (mLst ms)) s2) env S S0 := by
  obtain ⟨ws, e, h3, h4⟩ := h.lst (x := x)
  exact Out.seq e (h2 ws h3 h4)
theorem Out.more {x : Nat} {ws : List (List Nat)} (he : env[x]? = some (some (.ref S.length))) (hw : ∀ w ∈ ws, Tx 100000 w) (hl : ws.length ≤ 1000) (hm : ms.length ≤ 1000) (h : TLs ms env (S ++ [.lst (ws.map eS)])) (h2 : ∀ ws' : List (List Nat), ws'.length = ws.length + ms.length → (∀ w ∈ ws', Tx 100000 w) → ∀ S', S' = S ++ [.lst (ws.map eS)] → Out s2 (env.set x (some (.ref S'.length))) (S' ++ [.lst (ws'.map eS)]) S0) : Out (mSeq (mAsg x (mBin (opD T .Add) (mVar x) (mFz (mLst ms)))) s2) env (S ++ [.lst (ws.map eS)]) S0 := by
  obtain ⟨ws', e, h3, h4⟩ := h.add (T := T) (x := x) he get_last hw hl hm
  exact Out.seq e (h2 ws' h3 h4 _ rfl)
theorem Out.kind {z c : Int} (he : env[1]? = some (some (.int z))) (h1 : z = c → Out s env S S0) (h2 : z ≠ c → Out s2 env S S0) : Out (mSeq (mIfS (mB (mBin (cmpD T .Eq) (mVar 1) (mC (.int c)))) s mNext) s2) env S S0 := by
  have t1 : mB (mBin (cmpD T .Eq) (mVar 1) (mC (.int c))) env S = .ok (decide (z = c)) S := by
    rw [ev_B, ev_bin, ev_var, he]
    rfl
  by_cases h : z = c
  · rw [decide_eq_true h] at t1
    obtain ⟨w, U, e, ht⟩ := h1 h
    exact ⟨w, U, run_rt (ifs_t t1 e), ht⟩
  · rw [decide_eq_false h] at t1
    exact Out.seq (ifs_f t1 rfl) (h2 h)
end
end Lw


set_option Elab.async false
set_option linter.all false
set_option maxRecDepth 100000
set_option maxHeartbeats 1000000
/-! U9: spoilt texts are plain texts. -/
namespace Lw
open PySem L2 PyProof.Rows He Bp
local macro_rules | `(tactic| simp_all only [$ls,*]) => `(tactic| simp only [ev_mdef, ev_mdefk, ev_seq, ev_asg, ev_asgG, ev_gnm, ev_gtup, ev_gtp0, ev_gtp1, ev_gset, ev_ret, ev_retn, ev_drop, ev_ifs, ev_next, ev_brk, ev_cnt, ev_c, ev_var, ev_bin, ev_un, ev_args0, ev_args1, ev_tup, ev_lst, ev_if, ev_and, ev_or, ev_not, ev_B, ev_asB, ev_notD, ev_tru, ev_tru_b, ev_tru_i, ev_tru_n, ev_andV, ev_orV, ev_andf, ev_andt, ev_orf, ev_ort, ev_call, ev_attr, ev_new, ev_seta, ev_meth, ev_bm, ev_sl, ev_pn, ev_ps, ev_asI, ev_fnx, ev_frt, ev_fx, ev_int, ev_intb, ev_isn, ev_isn1, ev_isn2, ev_isn3, ev_isn4, ev_isn5, ev_isnn, ev_isnn1, ev_isnn2, ev_isnn3, ev_isnn4, ev_isnn5, ev_fz, ev_chain, ev_newk, ev_sup, ev_zip, ev_enum, ev_yes, ev_min, ev_max, ev_ival, ev_it_t, ev_it_r, ev_it_s, List.map_cons, List.map_nil, List.length_cons, List.length_nil, List.replicate, List.cons_append, List.nil_append, List.set_cons_succ, List.set_cons_zero, List.getElem?_cons_succ, List.getElem?_cons_zero, Res.bind_ok, onR_ok, opi_add, opi_sub, cmi_lt, cmi_le, cmi_gt, cmi_ge, cmi_eq, cmi_ne, cms_eq, cms_ne, cmb_eq, cmb_ne, negI, absI, ix_0, ix_1, ix_2, ix_3, ixr0, ixr1, ixr2, ixr3, len_tup, len_rl, len_sc, tuple_rl, tuple_tup, list_rl, list_tup, list_sc, if_true, if_false, Bool.false_eq_true, Bool.not_false, Bool.not_true, decide_true, decide_false, set_last, get_last, gz_bl, gz_int, gz_str, gz_non, ne_eq, reduceIte, $ls,*])
section
variable {T : CT} {S S' U S0 : Store} {p q : Rat} {i j : Int} {l r : D} {t w : List Nat} {env env' : Bp.Env} {n : Nat}
theorem ev_frzl {env : Bp.Env} {n i : Nat} {xs : List D} (h : env[i]? = some (some (.ref n))) (h2 : S[n]? = some (.lst xs)) : mFrzV i env S = .nx (env.set i (some (.rl xs))) (S.set n .dead) := by
  unfold mFrzV; rw [h]; dsimp only; rw [h2]
theorem spoilt_ok (hq : Sz 170 q) {z pl : Int} (h0 : 0 ≤ z) (h1 : z < 22) {c : Nat} (hc : c < 128) : ∃ w, m__law_spoilt [eP q, .int z, .int pl, .str (tS [c])] S = .ok (.str (tS w)) S ∧ Asc w ∧ w.length ≤ 100000 := by
  suffices H : Out b__law_spoilt [some (eP q), some (.int z), some (.int pl), some (.str (tS [c])), none, none, none, none, none, none, none, none, none] S S by
    obtain ⟨w, U, e, ht⟩ := H
    refine ⟨w, ?_, ht⟩
    unfold m__law_spoilt
    exact fn_rt e (gz_ext rfl)
  have tx := text_ok (S := S) (hq.mono (by decide : 170 ≤ 1900))
  have tl := len_wr hq
  have i0 := fun U => ixP0 (q := q) (S := U)
  have i1 := fun U => ixP1 (q := q) (S := U)
  have ln := lgn hq
  have ld := lgd hq
  have hl := fun U => lenT (S := U) (l := wr q) (by omega)
  have md := opi_mod (T := T5) (S := S) (i := pl) (j := (((wr q).length : Nat) : Int) + 1) (by omega)
  have p0 := Int.fmod_nonneg_of_pos pl (show (0 : Int) < (((wr q).length : Nat) : Int) + 1 by omega)
  have p1 := Int.fmod_lt_of_pos pl (show (0 : Int) < (((wr q).length : Nat) : Int) + 1 by omega)
  generalize pl.fmod ((((wr q).length : Nat) : Int) + 1) = P at *
  have txt : Tx 1000 (wr q) := ⟨.wr q, by omega⟩
  have Tc : Tx 1 [c] := ⟨.cons hc .nil, Nat.le_refl _⟩
  unfold b__law_spoilt
  refine Out.seq (env' := [some (eP q), some (.int z), some (.int pl), some (.str (tS [c])), some (.str (tS (wr q))), none, none, none, none, none, none, none, none]) (S' := S) ?_ ?_
  · simp_all only [tx]
  refine Out.seq (env' := [some (eP q), some (.int z), some (.int P), some (.str (tS [c])), some (.str (tS (wr q))), none, none, none, none, none, none, none, none]) (S' := S) ?_ ?_
  · simp_all only [hl, md]
  generalize wr q = t at txt hl ⊢
  refine Out.asg (TE.slT (.var rfl txt) rfl p0) fun hd th => ?_
  refine Out.asg (TE.slF (.var rfl txt) rfl p0) fun ta tt => ?_
  refine Out.seq (env' := [some (eP q), some (.int z), some (.int P), some (.str (tS [c])), some (.str (tS t)), some (.str (tS hd)), some (.str (tS ta)), some (.str (tS (numI q.num))), none, none, none, none, none]) (S' := S) ?_ ?_
  · have := strI_ok (T := T5) (S := S) (i := q.num) (by omega)
    simp_all only [i0, this]
  have hab : lg (if q.num < 0 then -q.num else q.num) ≤ 170 := by split <;> (try rw [lg_neg]) <;> exact ln
  refine Out.seq (env' := [some (eP q), some (.int z), some (.int P), some (.str (tS [c])), some (.str (tS t)), some (.str (tS hd)), some (.str (tS ta)), some (.str (tS (numI q.num))), some (.str (tS (numI (if q.num < 0 then -q.num else q.num)))), none, none, none, none]) (S' := S) ?_ ?_
  · have := strI_ok (T := T5) (S := S) (i := if q.num < 0 then -q.num else q.num) (by omega)
    simp_all only [i0, this]
  have l1 := len_lg ln
  have l2 := len_lg hab
  have l3 : (numI (if q.num < 0 then -q.num else q.num)).length ≤ (numI q.num).length := by
    by_cases h : q.num < 0
    · rw [if_pos h]
      unfold numI
      rw [if_pos h, if_neg (by omega), Int.natAbs_neg]
      simp
    · rw [if_neg h]
      exact Nat.le_refl _
  have f1 : Tx 1000 (numI q.num) := ⟨.numI _, by omega⟩
  have f2 : Tx 1000 (numI (if q.num < 0 then -q.num else q.num)) := ⟨.numI _, by omega⟩
  have e1 := fun U => lenT (S := U) (l := numI q.num) (by omega)
  have e2 := fun U => lenT (S := U) (l := numI (if q.num < 0 then -q.num else q.num)) (by omega)
  generalize hN : numI (if q.num < 0 then -q.num else q.num) = dg at *
  generalize numI q.num = tp at *
  refine Out.asg (TE.slT (i := (tp.length : Int) - (dg.length : Int)) (.var rfl f1) (by simp_all only [e1, e2]) (by omega)) fun mi tm => ?_
  refine Out.asg (TE.str (i := (q.den : Int)) (by simp_all only [i1]) (by omega)) fun dn td => ?_
  have vt : ∀ {k : Nat} {x : List Nat}, Tx k x → Tx k x := fun h => h
  refine Out.kind rfl (fun _ => ?_) fun k0 => ?_
  · exact Out.ret (TE.add (TE.add (.var rfl th) (.var rfl Tc)) (.var rfl tt)) ⟨[], by simp⟩
  refine Out.kind rfl (fun _ => ?_) fun k1 => ?_
  · exact Out.ret (TE.fz (TE.add (.var rfl th) (TE.slF (i := 1) (.var rfl tt) rfl (by decide)))) ⟨[], by simp⟩
  refine Out.kind rfl (fun _ => ?_) fun k2 => ?_
  · exact Out.ret (TE.fz (TE.add (TE.fz (TE.add (.var rfl th) (TE.slT (i := 1) (.var rfl tt) rfl (by decide)))) (.var rfl tt))) ⟨[], by simp⟩
  refine Out.kind rfl (fun _ => ?_) fun k3 => ?_
  · exact Out.ret (TE.fz (TE.add (TE.add (.var rfl th) (.var rfl Tc)) (TE.slF (i := 1) (.var rfl tt) rfl (by decide)))) ⟨[], by simp⟩
  have P1000 : lg (2 + P) ≤ 170 := Nat.le_trans (lgT (k := 4) (by omega)) (by decide)
  refine Out.kind rfl (fun _ => ?_) fun k4 => ?_
  · have m1 := opi_mul (T := T5) (S := S) (i := q.num) (j := 2 + P) (by omega)
    have m2 := opi_mul (T := T5) (S := S) (i := (q.den : Int)) (j := 2 + P) (by omega)
    have b1 : lg (q.num * (2 + P)) ≤ 1000 := Nat.le_trans (lg_mul ln P1000) (by decide)
    have b2 : lg ((q.den : Int) * (2 + P)) ≤ 1000 := Nat.le_trans (lg_mul ld P1000) (by decide)
    exact Out.ret (TE.add (TE.add (TE.str (i := q.num * (2 + P)) (by simp_all only [i0, m1]) b1) (TE.lit (k := 1) [47] rfl rfl (by decide))) (TE.str (i := (q.den : Int) * (2 + P)) (by simp_all only [i1, m2]) b2)) ⟨[], by simp⟩
  refine Out.asg (TE.slF (i := (tp.length : Int)) (.var rfl txt) (by simp_all only [e1]) (by omega)) fun re tr => ?_
  refine Out.lst ?_ fun w4 n4 hw => ?_
  · exact .cons (TE.add (.var rfl txt) (TE.lit (k := 2) [47, 49] rfl rfl (by decide))) (.cons (TE.add (TE.lit (k := 1) [45] rfl rfl (by decide)) (.var rfl txt)) (.cons (TE.add (TE.lit (k := 1) [43] rfl rfl (by decide)) (.var rfl txt)) (.cons (TE.add (TE.add (.var rfl f1) (TE.lit (k := 2) [47, 45] rfl rfl (by decide))) (.var rfl td)) .nil)))
  have n4 : w4.length = 4 := n4
  refine Out.more rfl hw (by omega) (by decide) ?_ fun w6 n6 hw S6 hS6 => ?_
  · exact .cons (TE.add (TE.add (.var rfl f1) (TE.lit (k := 2) [47, 48] rfl rfl (by decide))) (.var rfl td)) (.cons (TE.add (TE.add (TE.add (.var rfl tm) (TE.lit (k := 1) [48] rfl rfl (by decide))) (.var rfl f2)) (.var rfl tr)) .nil)
  have n6 : w6.length = 6 := by rw [n6, n4]; rfl
  refine Out.more rfl hw (by omega) (by decide) ?_ fun w9 n9 hw S9 hS9 => ?_
  · exact .cons (TE.add (TE.lit (k := 1) [32] rfl rfl (by decide)) (.var rfl txt)) (.cons (TE.add (.var rfl txt) (TE.lit (k := 1) [32] rfl rfl (by decide))) (.cons (TE.add (.var rfl txt) (TE.lit (k := 1) [10] rfl rfl (by decide))) .nil))
  have n9 : w9.length = 9 := by rw [n9, n6]; rfl
  refine Out.more rfl hw (by omega) (by decide) ?_ fun w11 n11 hw S11 hS11 => ?_
  · exact .cons (TE.add (TE.add (.var rfl f1) (TE.lit (k := 2) [32, 47] rfl rfl (by decide))) (.var rfl td)) (.cons (TE.add (TE.add (.var rfl f1) (TE.lit (k := 2) [47, 32] rfl rfl (by decide))) (.var rfl td)) .nil)
  have n11 : w11.length = 11 := by rw [n11, n9]; rfl
  refine Out.more rfl hw (by omega) (by decide) ?_ fun w13 n13 hw S13 hS13 => ?_
  · exact .cons (TE.add (TE.add (TE.add (.var rfl tm) (TE.lit (k := 1) [49] rfl rfl (by decide))) (TE.mul (i := 40) (c := 48) rfl (by decide) (by decide) (by decide))) (.var rfl tr)) (.cons (TE.add (TE.add (.var rfl tm) (TE.lit (k := 1) [49] rfl rfl (by decide))) (TE.mul (i := 39) (c := 48) rfl (by decide) (by decide) (by decide))) .nil)
  have n13 : w13.length = 13 := by rw [n13, n11]; rfl
  refine Out.more rfl hw (by omega) (by decide) ?_ fun w15 n15 hw S15 hS15 => ?_
  · exact .cons (TE.add (.var rfl txt) (TE.lit (k := 1) [48] rfl rfl (by decide))) (.cons (.var rfl txt) .nil)
  have n15 : w15.length = 15 := by rw [n15, n13]; rfl
  have hU : ∃ U, S15 = S ++ U := by
    subst hS15 hS13 hS11 hS9 hS6
    exact ⟨[O.lst (w4.map eS), O.lst (w6.map eS), O.lst (w9.map eS), O.lst (w11.map eS), O.lst (w13.map eS)], by simp⟩
  obtain ⟨U15, hU⟩ := hU
  have lx := text_ok (S := S15 ++ [O.lst (w15.map eS)]) (q := -q) ((hq.mono (by decide : 170 ≤ 1900)).neg)
  have lx : m__law_text [.tup [.int (-q.num), .int (q.den : Int)]] (S15 ++ [O.lst (w15.map eS)]) = .ok (.str (tS (wr (-q)))) (S15 ++ [O.lst (w15.map eS)]) := lx
  have ap := app_ref (x := .str (tS (wr (-q)))) (get_last (S := S15) (o := O.lst (w15.map eS))) (by rw [List.length_map]; omega)
  rw [set_last, show w15.map eS ++ [.str (tS (wr (-q)))] = (w15 ++ [wr (-q)]).map eS by simp] at ap
  have ty : tyD "list" (.ref S15.length) (S15 ++ [O.lst (w15.map eS)]) = true := ty_ref get_last
  refine Out.seq (env' := [some (eP q), some (.int z), some (.int P), some (.str (tS [c])), some (.str (tS t)), some (.str (tS hd)), some (.str (tS ta)), some (.str (tS tp)), some (.str (tS dg)), some (.str (tS mi)), some (.str (tS dn)), some (.str (tS re)), some (.ref S15.length)]) (S' := S15 ++ [O.lst ((w15 ++ [wr (-q)]).map eS)]) ?_ ?_
  · simp_all only [ty, i0, i1, lx, ap]
  refine Out.seq (env' := [some (eP q), some (.int z), some (.int P), some (.str (tS [c])), some (.str (tS t)), some (.str (tS hd)), some (.str (tS ta)), some (.str (tS tp)), some (.str (tS dg)), some (.str (tS mi)), some (.str (tS dn)), some (.str (tS re)), some (.rl ((w15 ++ [wr (-q)]).map eS))]) (S' := S15 ++ [O.dead]) ?_ ?_
  · rw [ev_frzl rfl get_last, set_last]
    rfl
  have hw16 : ∀ w ∈ w15 ++ [wr (-q)], Tx 100000 w := fun w hw' => (List.mem_append.mp hw').elim (hw w) fun h => by
    rw [List.mem_singleton.mp h]
    have := len_wr hq.neg
    exact ⟨.wr _, by omega⟩
  have n16 : (w15 ++ [wr (-q)]).length = 16 := by rw [List.length_append, n15]; rfl
  generalize w15 ++ [wr (-q)] = w16 at *
  subst hU
  by_cases hk : z < 21
  · obtain ⟨m, hm⟩ := Int.eq_ofNat_of_zero_le (show 0 ≤ z - 5 by omega)
    obtain ⟨w, hw2⟩ := at_of (xs := w16) (j := m) (by omega)
    have ix : ∀ V, ixD (.rl (w16.map eS)) (.int (m : Int)) V = .ok (.str (tS w)) V := fun V => ix_rl (by rw [List.getElem?_map, hw2]; rfl)
    refine Out.rt ⟨w, U15 ++ [O.dead], ?_, hw16 w (List.mem_of_getElem? hw2)⟩
    apply ifs_t (S' := S ++ U15 ++ [O.dead])
    · simp_all only [hk]
    · rw [← List.append_assoc]
      simp_all only [hm, ix]
  · obtain ⟨w, es, hs⟩ := short_ok (S := S ++ U15 ++ [O.dead]) (k := P)
    refine Out.seq (env' := [some (eP q), some (.int z), some (.int P), some (.str (tS [c])), some (.str (tS t)), some (.str (tS hd)), some (.str (tS ta)), some (.str (tS tp)), some (.str (tS dg)), some (.str (tS mi)), some (.str (tS dn)), some (.str (tS re)), some (.rl (w16.map eS))]) (S' := S ++ U15 ++ [O.dead]) ?_ ⟨w, U15 ++ [O.dead], ?_, hs⟩
    · apply ifs_f (S' := S ++ U15 ++ [O.dead])
      · simp_all only [hk]
      · rfl
    · rw [← List.append_assoc]
      simp_all only [es]
end
end Lw


set_option Elab.async false
set_option linter.all false
set_option maxRecDepth 100000
set_option maxHeartbeats 1000000
/-! U10: written forms of products, the law. -/
namespace Lw
open PySem L2 PyProof.Rows He Bp
local macro_rules | `(tactic| simp_all only [$ls,*]) => `(tactic| simp only [ev_mdef, ev_mdefk, ev_seq, ev_asg, ev_asgG, ev_gnm, ev_gtup, ev_gtp0, ev_gtp1, ev_gset, ev_ret, ev_retn, ev_drop, ev_ifs, ev_next, ev_brk, ev_cnt, ev_c, ev_var, ev_bin, ev_un, ev_args0, ev_args1, ev_tup, ev_lst, ev_if, ev_and, ev_or, ev_not, ev_B, ev_asB, ev_notD, ev_tru, ev_tru_b, ev_tru_i, ev_tru_n, ev_andV, ev_orV, ev_andf, ev_andt, ev_orf, ev_ort, ev_call, ev_attr, ev_new, ev_seta, ev_meth, ev_bm, ev_sl, ev_pn, ev_ps, ev_asI, ev_fnx, ev_frt, ev_fx, ev_int, ev_intb, ev_isn, ev_isn1, ev_isn2, ev_isn3, ev_isn4, ev_isn5, ev_isnn, ev_isnn1, ev_isnn2, ev_isnn3, ev_isnn4, ev_isnn5, ev_fz, ev_chain, ev_newk, ev_sup, ev_zip, ev_enum, ev_yes, ev_min, ev_max, ev_ival, ev_it_t, ev_it_r, ev_it_s, List.map_cons, List.map_nil, List.length_cons, List.length_nil, List.replicate, List.cons_append, List.nil_append, List.set_cons_succ, List.set_cons_zero, List.getElem?_cons_succ, List.getElem?_cons_zero, Res.bind_ok, onR_ok, opi_add, opi_sub, cmi_lt, cmi_le, cmi_gt, cmi_ge, cmi_eq, cmi_ne, cms_eq, cms_ne, cmb_eq, cmb_ne, negI, absI, ix_0, ix_1, ix_2, ix_3, ixr0, ixr1, ixr2, ixr3, len_tup, len_rl, len_sc, tuple_rl, tuple_tup, list_rl, list_tup, list_sc, if_true, if_false, Bool.false_eq_true, Bool.not_false, Bool.not_true, decide_true, decide_false, set_last, get_last, gz_bl, gz_int, gz_str, gz_non, ne_eq, reduceIte, $ls,*])
section
variable {T : CT} {S S' U S0 : Store} {p q o : Rat} {i j : Int} {l r : D} {t w : List Nat} {env env' : Bp.Env} {n : Nat} {ns : List Int}
theorem cutP_wr (q : Rat) : cutP (body (wr q)) = (TL.numL q.num.natAbs, TL.numL q.den) := by
  rw [(neg_wr q).2]
  by_cases hd : q.den = 1
  · rw [if_pos hd, List.append_nil, cutP_no (TL.numL_free (.inl (by decide))), hd]
    rfl
  · rw [if_neg hd, cutP_yes (TL.numL_free (.inl (by decide)))]
theorem wr_inj (h : wr p = wr q) : p = q := by
  have e := cutP_wr p
  rw [h, cutP_wr q] at e
  injection e with e1 e2
  have n1 := TL.numL_inj e1
  have n2 := TL.numL_inj e2
  have s1 := (neg_wr p).1
  rw [h, (neg_wr q).1] at s1
  have s2 : (q.num < 0) ↔ (p.num < 0) := by
    have := decide_eq_decide.mp s1
    exact this
  exact Rat.ext (by omega) n2.symm
theorem sq_num (p : Rat) : (p * p).num = p.num * p.num ∧ (p * p).den = p.den * p.den := by
  have h := divInt_mk (i := p.num * p.num) (d := p.den * p.den) (by
    have := p.reduced
    rw [Int.natAbs_mul]
    exact (Nat.Coprime.mul_left this this).mul_right (Nat.Coprime.mul_left this this)) (Nat.mul_pos p.den_pos p.den_pos)
  have e := q_mul p p
  rw [show ((p.den : Int) * (p.den : Int)) = ((p.den * p.den : Nat) : Int) by simp] at e
  rw [e] at h
  exact h
theorem neg_eP (p : Rat) : D.tup [.int (-p.num), .int (p.den : Int)] = eP (-p) := rfl
theorem sq_eP (p : Rat) : D.tup [.int (p.num * p.num), .int ((p.den : Int) * (p.den : Int))] = eP (p * p) := by
  unfold eP
  obtain ⟨e1, e2⟩ := sq_num p
  rw [e1, e2]
  simp
theorem writes_ok (hp : Sz 170 p) (ho : Sz 170 o) : m__law_writes [eP p, eP o] S = .ok (.bl true) S := by
  have tp := text_ok (S := S) (hp.mono (by decide : 170 ≤ 1900))
  have lp := len_wr hp
  have rd := reading_ok (S := S) (t := wr p) (by omega)
  have rp := read_ok (S := S) (t := wr p) (.wr p) (by omega)
  unfold readR at rp
  rw [rd_same] at rp
  unfold m__law_writes b__law_writes
  refine fn_rt (S' := S) (d := .bl true) ?_ gz_bl
  apply run_nx
  · simp_all only [tp]
    rfl
  cases h : rdL (wr p) with
  | none =>
    rw [h] at rd
    have rd : m__law_reading [.str (tS (wr p))] S = .ok .non S := rd
    apply run_rt
    apply ifs_t (S' := S)
    · simp_all only [rd]
    · simp_all only []
      try rfl
  | some q =>
    rw [h] at rd rp
    obtain ⟨e, wf⟩ := rdL_some h
    have := wr_inj e
    subst this
    have rd : m__law_reading [.str (tS (wr p))] S = .ok (eP p) S := rd
    have rp : m_F_read [.str (tS (wr p))] S = .ok (eQ p) S := rp
    have nn : ∀ U, isND (eP p) .non U = .ok (.bl false) U := fun U => rfl
    have i0 := ixP0 (q := p) (S := S)
    have i1 := ixP1 (q := p) (S := S)
    have j0 := ixP0 (q := o) (S := S)
    have j1 := ixP1 (q := o) (S := S)
    have a1 := lgn hp; have a2 := lgd hp; have a3 := lgn ho; have a4 := lgd ho
    have d0 : (0 : Int) < p.den * o.den := Int.mul_pos (by have := p.den_pos; omega) (by have := o.den_pos; omega)
    have m1 := opi_mul (T := T5) (S := S) (i := p.num) (j := o.num) (by omega)
    have m2 := opi_mul (T := T5) (S := S) (i := (p.den : Int)) (j := o.den) (by omega)
    have m3 := opi_mul (T := T5) (S := S) (i := p.num) (j := p.num) (by omega)
    have m4 := opi_mul (T := T5) (S := S) (i := (p.den : Int)) (j := p.den) (by omega)
    have lo := low_okd (S := S) (n := p.num * o.num) d0 (by have := lg_mul a2 a4; omega)
    rw [q_mul] at lo
    have nw := new_qq (S := S) tab5.mkr tab5.fl (n := o.num) (d := (o.den : Int)) (by have := o.den_pos; omega) (by omega)
    rw [Rat.num_divInt_den] at nw
    have s1 : Sz 341 (p * o) := hp.mul ho
    have s2 : Sz 341 (p * p) := hp.mul hp
    have f1 : opD T5 .Mult (eQ p) (eQ o) S = .ok (eQ (p * o)) S := fn_mul op5.toOpT (.qq p o) (hp.mono (by decide)) (ho.mono (by decide))
    have f2 : opD T5 .Mult (eQ p) (eQ p) S = .ok (eQ (p * p)) S := fn_mul op5.toOpT (.qq p p) (hp.mono (by decide)) (hp.mono (by decide))
    have st1 := str_q (S := S) (s1.mono (by decide : 341 ≤ 1900))
    have st2 := str_q (S := S) (s2.mono (by decide : 341 ≤ 1900))
    have st3 := str_q (S := S) ((hp.mono (by decide : 170 ≤ 1900)).neg)
    have st4 := str_q (S := S) (hp.mono (by decide : 170 ≤ 1900))
    have tx1 := text_ok (S := S) (s1.mono (by decide : 341 ≤ 1900))
    have tx2 := text_ok (S := S) (s2.mono (by decide : 341 ≤ 1900))
    have tx3 := text_ok (S := S) ((hp.mono (by decide : 170 ≤ 1900)).neg)
    have re1 := reads_ok (S := S) (t := wr (p * o)) (.wr _) (by have := len_wr s1; omega)
    have re2 := reads_ok (S := S) (t := wr (p * p)) (.wr _) (by have := len_wr s2; omega)
    have ng := neg_qq (S := S) op5.toOpT (hp.mono (by decide : 170 ≤ 1900))
    have ne : ∀ w, cmpD T5 .NotEq (.str (tS w)) (.str (tS w)) S = .ok (.bl false) S := fun w => by rw [Bp.neT, decide_eq_true rfl]; rfl
    have eqq : ∀ w, cmpD T5 .Eq (.str (tS w)) (.str (tS w)) S = .ok (.bl true) S := fun w => by rw [Bp.eqT, decide_eq_true rfl]
    apply run_nx
    · apply ifs_f (S' := S)
      · simp_all only [rd, nn]
      · rfl
    apply run_nx
    · simp_all only [rp]
      rfl
    apply run_nx
    · simp_all only [i0, i1, j0, j1, m1, m2, lo]
      rfl
    apply run_nx
    · simp_all only [j0, j1, nw, f1]
      rfl
    apply run_nx
    · apply ifs_f (S' := S)
      · simp_all only [st1, tx1, ne, re1]
      · rfl
    apply run_nx
    · show mAsg 6 _ _ S = .nx [some (eP p), some (eP o), some (.str (tS (wr p))), some (eQ p), some (eP (p * o)), some (eQ (p * o)), some (eP (p * p))] S
      simp_all only [i0, i1, m3, m4, sq_eP]
    apply run_nx
    · apply ifs_f (S' := S)
      · simp_all only [f2, st2, tx2, ne, re2]
      · rfl
    apply run_nx
    · apply ifs_f (S' := S)
      · simp_all only [ng, st3, i0, i1, neg_eP, tx3, ne]
      · rfl
    simp_all only [st4, eqq, lis_ok]
    try rfl
end
end Lw


set_option Elab.async false
set_option linter.all false
set_option maxRecDepth 100000
set_option maxHeartbeats 1000000
/-! U11: the law. -/
namespace Lw
open PySem L2 PyProof.Rows He Bp
local macro_rules | `(tactic| simp_all only [$ls,*]) => `(tactic| simp only [ev_mdef, ev_mdefk, ev_seq, ev_asg, ev_asgG, ev_gnm, ev_gtup, ev_gtp0, ev_gtp1, ev_gset, ev_ret, ev_retn, ev_drop, ev_ifs, ev_next, ev_brk, ev_cnt, ev_c, ev_var, ev_bin, ev_un, ev_args0, ev_args1, ev_tup, ev_lst, ev_if, ev_and, ev_or, ev_not, ev_B, ev_asB, ev_notD, ev_tru, ev_tru_b, ev_tru_i, ev_tru_n, ev_andV, ev_orV, ev_andf, ev_andt, ev_orf, ev_ort, ev_call, ev_attr, ev_new, ev_seta, ev_meth, ev_bm, ev_sl, ev_pn, ev_ps, ev_asI, ev_fnx, ev_frt, ev_fx, ev_int, ev_intb, ev_isn, ev_isn1, ev_isn2, ev_isn3, ev_isn4, ev_isn5, ev_isnn, ev_isnn1, ev_isnn2, ev_isnn3, ev_isnn4, ev_isnn5, ev_fz, ev_chain, ev_newk, ev_sup, ev_zip, ev_enum, ev_yes, ev_min, ev_max, ev_ival, ev_it_t, ev_it_r, ev_it_s, List.map_cons, List.map_nil, List.length_cons, List.length_nil, List.replicate, List.cons_append, List.nil_append, List.set_cons_succ, List.set_cons_zero, List.getElem?_cons_succ, List.getElem?_cons_zero, Res.bind_ok, onR_ok, opi_add, opi_sub, cmi_lt, cmi_le, cmi_gt, cmi_ge, cmi_eq, cmi_ne, cms_eq, cms_ne, cmb_eq, cmb_ne, negI, absI, ix_0, ix_1, ix_2, ix_3, ixr0, ixr1, ixr2, ixr3, len_tup, len_rl, len_sc, tuple_rl, tuple_tup, list_rl, list_tup, list_sc, if_true, if_false, Bool.false_eq_true, Bool.not_false, Bool.not_true, decide_true, decide_false, set_last, get_last, gz_bl, gz_int, gz_str, gz_non, ne_eq, reduceIte, $ls,*])
section
variable {T : CT} {S S' U S0 : Store} {p q o : Rat} {i j : Int} {l r : D} {t w : List Nat} {env env' : Bp.Env} {n : Nat}
theorem cut_to {xs : List D} {k : Nat} : cutD xs none (some (k : Int)) = xs.take k := by
  unfold Bp.cutD
  rw [HT.sIx_none, HT.sIx_nat, List.drop_zero, Nat.sub_zero]
  by_cases h : k ≤ xs.length
  · rw [Nat.min_eq_left h]
  · rw [Nat.min_eq_right (by omega), List.take_length, List.take_of_length_le (by omega)]
theorem signs_eq : ("0123456789-+/ ._aeE\n" : Str).cps.toList = [48, 49, 50, 51, 52, 53, 54, 55, 56, 57, 45, 43, 47, 32, 46, 95, 97, 101, 69, 10] := rfl
theorem sign_at {k : Int} (h0 : 0 ≤ k) (h1 : k < 20) : ∃ c, c < 128 ∧ ∀ U, ixD (.str "0123456789-+/ ._aeE\n") (.int k) U = .ok (.str (tS [c])) U := by
  obtain ⟨m, rfl⟩ := Int.eq_ofNat_of_zero_le h0
  obtain ⟨c, hc⟩ := at_of (xs := [48, 49, 50, 51, 52, 53, 54, 55, 56, 57, 45, 43, 47, 32, 46, 95, 97, 101, 69, 10]) (j := m) (by show m < 20; omega)
  refine ⟨c, ?_, fun U => ix_txt (k := m) (by decide +kernel) (by rw [signs_eq]; exact hc)⟩
  have : ∀ c ∈ [48, 49, 50, 51, 52, 53, 54, 55, 56, 57, 45, 43, 47, 32, 46, 95, 97, 101, 69, 10], c < 128 := by decide
  exact this c (List.mem_of_getElem? hc)
theorem pure_law (ns : List Int) : m_law [.sc (ns.map .int)] [] = .ok (.bl true) [] := by
  have hn : (ns.take 63).length ≤ 63 := by rw [List.length_take]; omega
  have cut : ∀ T, gz T (slD (.sc (ns.map .int)) none (some 63) T) = .ok (.rl ((ns.take 63).map .int)) T := fun T => by
    rw [sls, show (63 : Int) = ((63 : Nat) : Int) from rfl, cut_to, ← List.map_take]
    exact gz_new (belows_map (fun _ => rfl) _)
  generalize ns.take 63 = ms at *
  obtain ⟨q, ed, hq⟩ := drawn_ok (S := []) hn
  have tx := text_ok (S := []) (hq.mono (by decide : 170 ≤ 1900))
  have lq := len_wr hq
  have r1 := reads_ok (S := []) (t := wr q) (.wr q) (by omega)
  obtain ⟨c33, e33, a33, b33⟩ := cell_ok (S := []) hn (k := 33) (by decide) (by decide)
  obtain ⟨c34, e34, a34, b34⟩ := cell_ok (S := []) hn (k := 34) (by decide) (by decide)
  obtain ⟨c35, e35, a35, b35⟩ := cell_ok (S := []) hn (k := 35) (by decide) (by decide)
  have pw := opi_pow (T := T5) (S := []) (i := 10) (j := 12) (by decide) (by decide) (by decide)
  rw [show ((10 : Int) ^ (12 : Int).toNat) = 1000000000000 by decide] at pw
  have m34 := opi_mod (T := T5) (S := []) (i := c34) (j := 1000000000000) (by decide)
  have ml := opi_mulB (T := T5) (S := []) (i := 2) (j := 1000000000000) (by decide) (by decide) (by decide) (by decide)
  rw [show (2 : Int) * 1000000000000 = 2000000000000 by decide] at ml
  have m33 := opi_mod (T := T5) (S := []) (i := c33) (j := 2000000000001) (by decide)
  have m35 := opi_mod (T := T5) (S := []) (i := c35) (j := 19000) (by decide)
  have u0 := Int.fmod_nonneg_of_pos c34 (show (0 : Int) < 1000000000000 by decide)
  have u1 := Int.fmod_lt_of_pos c34 (show (0 : Int) < 1000000000000 by decide)
  have v0 := Int.fmod_nonneg_of_pos c33 (show (0 : Int) < 2000000000001 by decide)
  have v1 := Int.fmod_lt_of_pos c33 (show (0 : Int) < 2000000000001 by decide)
  have w0 := Int.fmod_nonneg_of_pos c35 (show (0 : Int) < 19000 by decide)
  have w1 := Int.fmod_lt_of_pos c35 (show (0 : Int) < 19000 by decide)
  generalize c34.fmod 1000000000000 = x34 at *
  generalize c33.fmod 2000000000001 = x33 at *
  generalize c35.fmod 19000 = x35 at *
  have lb : lg (x34 + 1) ≤ 170 := Nat.le_trans (lgT (k := 13) (by omega)) (by decide)
  have lt : lg (x33 - 1000000000000) ≤ 170 := Nat.le_trans (lgT (k := 13) (by omega)) (by decide)
  have lo := low_okd (S := []) (n := x33 - 1000000000000) (d := x34 + 1) (by omega) (by omega)
  have ho : Sz 170 (Rat.divInt (x33 - 1000000000000) (x34 + 1)) := Sz.divInt lt lb
  generalize Rat.divInt (x33 - 1000000000000) (x34 + 1) = o at *
  have j0 := ixP0 (q := o) (S := [])
  have j1 := ixP1 (q := o) (S := [])
  have a4 := lgd ho
  have nw := new_qq (S := []) tab5.mkr tab5.fl (n := o.num) (d := (o.den : Int)) (by have := o.den_pos; omega) (by omega)
  rw [Rat.num_divInt_den] at nw
  have st := str_q (S := []) (ho.mono (by decide : 170 ≤ 1900))
  have to := text_ok (S := []) (ho.mono (by decide : 170 ≤ 1900))
  have ne : ∀ w, cmpD T5 .NotEq (.str (tS w)) (.str (tS w)) [] = .ok (.bl false) [] := fun w => by rw [Bp.neT, decide_eq_true rfl]; rfl
  have mu := mul1 (S := []) (c := 55) (n := 41 + x35) (by omega) (by omega)
  have lg7 : (List.replicate (41 + x35).toNat 55).length ≤ 20000 := by rw [List.length_replicate]; omega
  have as7 : Asc (List.replicate (41 + x35).toNat 55) := .rep (by decide)
  generalize List.replicate (41 + x35).toNat 55 = g at *
  have r2 := reads_ok (S := []) (t := g) as7 (by omega)
  have r3 := reads_ok (S := []) (t := [49, 47] ++ g) (.app (.cons (by decide) (.cons (by decide) .nil)) as7) (by simp; omega)
  have r3 : m__law_reads [.str (tS (49 :: 47 :: g))] [] = .ok (.bl true) [] := r3
  have ct := catT_ok (T := T5) (S := []) (a := [49, 47]) (b := g) (by simp; omega)
  have w1 := writes_ok (S := []) hq ho
  have w2 := writes_ok (S := []) ho ho
  obtain ⟨env1, S1, e1, o2, o3, o4, o5, he, hS⟩ := for_rng (g := gNm 2) (it := iRange1 (mC (.int 8))) (body := lb_law_0) (n := 8) (env := [some (.rl (ms.map .int)), some (eP q), none, none, none, none, none, none, none]) (S := []) (S1 := []) (plain_nm 2) (rng1 (j := 8) rfl (by omega) (by omega)) (fun j env S' => ∃ (o2 o3 o4 o5 : Option D), env = [some (.rl (ms.map .int)), some (eP q), o2, o3, o4, o5, none, none, none] ∧ S' = []) ⟨none, none, none, none, rfl, rfl⟩ (fun j env S' hj ⟨o2, o3, o4, o5, he, hS⟩ => by
    subst he hS
    have hj2 : (j : Int) < 8 := by omega
    have mk := opi_mulB (T := T5) (S := []) (i := 3) (j := 0 + (j : Int)) (by decide) (by decide) (by omega) (by omega)
    obtain ⟨ca, ea, _, _⟩ := cell_ok (S := []) hn (k := 9 + 3 * (0 + (j : Int))) (by omega) (by omega)
    obtain ⟨cb, eb, _, _⟩ := cell_ok (S := []) hn (k := 11 + 3 * (0 + (j : Int))) (by omega) (by omega)
    obtain ⟨cc, ec, _, _⟩ := cell_ok (S := []) hn (k := 10 + 3 * (0 + (j : Int))) (by omega) (by omega)
    have ma := opi_mod (T := T5) (S := []) (i := ca) (j := 22) (by decide)
    have mb := opi_mod (T := T5) (S := []) (i := cb) (j := 20) (by decide)
    obtain ⟨c, hc, ic⟩ := sign_at (Int.fmod_nonneg_of_pos cb (show (0 : Int) < 20 by decide)) (Int.fmod_lt_of_pos cb (show (0 : Int) < 20 by decide))
    obtain ⟨w, ew, aw, lw⟩ := spoilt_ok (S := []) hq (z := ca.fmod 22) (pl := cc) (Int.fmod_nonneg_of_pos ca (show (0 : Int) < 22 by decide)) (Int.fmod_lt_of_pos ca (show (0 : Int) < 22 by decide)) hc
    have rw' := reads_ok (S := []) (t := w) aw lw
    refine ⟨[some (.rl (ms.map .int)), some (eP q), some (.int (0 + (j : Int))), some (.int (ca.fmod 22)), some (.str (tS [c])), some (.str (tS w)), none, none, none], [], ?_, _, _, _, _, rfl, rfl⟩
    apply turn_nx
    · rfl
    · unfold lb_law_0
      simp only [List.set_cons_succ, List.set_cons_zero]
      apply run_nx
      · simp_all only [mk, ea, ma]
        rfl
      apply run_nx
      · simp_all only [mk, eb, mb, ic]
        rfl
      apply run_nx
      · simp_all only [mk, ec, ew]
        rfl
      apply ifs_f (S' := [])
      · simp_all only [rw']
      · rfl
    )
  subst he hS
  unfold m_law b_law
  refine fn_rt (S' := []) (d := .bl true) ?_ gz_bl
  apply run_nx
  · show mAsg 0 _ [some (.sc (ns.map .int)), none, none, none, none, none, none, none, none] [] = .nx [some (.rl (ms.map .int)), none, none, none, none, none, none, none, none] []
    simp_all only [cut]
  apply run_nx
  · apply ifs_f (S' := [])
    · simp_all only [integer_ok]
    · rfl
  apply run_nx
  · simp_all only [ed]
    rfl
  apply run_nx
  · apply ifs_f (S' := [])
    · simp_all only [tx, r1]
    · rfl
  apply run_nx
  · exact e1
  apply run_nx
  · simp_all only [e34, pw, m34]
    rfl
  apply run_nx
  · show mAsg 7 _ [some (.rl (ms.map .int)), some (eP q), o2, o3, o4, o5, some (.int (x34 + 1)), none, none] [] = .nx [some (.rl (ms.map .int)), some (eP q), o2, o3, o4, o5, some (.int (x34 + 1)), some (eP o), none] []
    simp_all only [e33, pw, ml, show (2000000000000 : Int) + 1 = 2000000000001 by decide, m33, lo]
  apply run_nx
  · apply ifs_f (S' := [])
    · simp_all only [j0, j1, nw, st, to, ne]
    · rfl
  apply run_nx
  · show mAsg 8 _ [some (.rl (ms.map .int)), some (eP q), o2, o3, o4, o5, some (.int (x34 + 1)), some (eP o), none] [] = .nx [some (.rl (ms.map .int)), some (eP q), o2, o3, o4, o5, some (.int (x34 + 1)), some (eP o), some (.str (tS g))] []
    simp only [ev_mdef, ev_mdefk, ev_seq, ev_asg, ev_asgG, ev_gnm, ev_gtup, ev_gtp0, ev_gtp1, ev_gset, ev_ret, ev_retn, ev_drop, ev_ifs, ev_next, ev_brk, ev_cnt, ev_c, ev_var, ev_bin, ev_un, ev_args0, ev_args1, ev_tup, ev_lst, ev_if, ev_and, ev_or, ev_not, ev_B, ev_asB, ev_notD, ev_tru, ev_tru_b, ev_tru_i, ev_tru_n, ev_andV, ev_orV, ev_andf, ev_andt, ev_orf, ev_ort, ev_call, ev_attr, ev_new, ev_seta, ev_meth, ev_bm, ev_sl, ev_pn, ev_ps, ev_asI, ev_fnx, ev_frt, ev_fx, ev_int, ev_intb, ev_isn, ev_isn1, ev_isn2, ev_isn3, ev_isn4, ev_isn5, ev_isnn, ev_isnn1, ev_isnn2, ev_isnn3, ev_isnn4, ev_isnn5, ev_fz, ev_chain, ev_newk, ev_sup, ev_zip, ev_enum, ev_yes, ev_min, ev_max, ev_ival, ev_it_t, ev_it_r, ev_it_s, List.map_cons, List.map_nil, List.length_cons, List.length_nil, List.replicate, List.cons_append, List.nil_append, List.set_cons_succ, List.set_cons_zero, List.getElem?_cons_succ, List.getElem?_cons_zero, Res.bind_ok, onR_ok, opi_add, opi_sub, cmi_lt, cmi_le, cmi_gt, cmi_ge, cmi_eq, cmi_ne, cms_eq, cms_ne, cmb_eq, cmb_ne, negI, absI, ix_0, ix_1, ix_2, ix_3, ixr0, ixr1, ixr2, ixr3, len_tup, len_rl, len_sc, tuple_rl, tuple_tup, list_rl, list_tup, list_sc, if_true, if_false, Bool.false_eq_true, Bool.not_false, Bool.not_true, decide_true, decide_false, set_last, get_last, gz_bl, gz_int, gz_str, gz_non, ne_eq, reduceIte, e35, m35, show (.str "7" : D) = .str (tS [55]) from rfl, mu]
  apply run_nx
  · apply ifs_f (S' := [])
    · simp only [ev_mdef, ev_mdefk, ev_seq, ev_asg, ev_asgG, ev_gnm, ev_gtup, ev_gtp0, ev_gtp1, ev_gset, ev_ret, ev_retn, ev_drop, ev_ifs, ev_next, ev_brk, ev_cnt, ev_c, ev_var, ev_bin, ev_un, ev_args0, ev_args1, ev_tup, ev_lst, ev_if, ev_and, ev_or, ev_not, ev_B, ev_asB, ev_notD, ev_tru, ev_tru_b, ev_tru_i, ev_tru_n, ev_andV, ev_orV, ev_andf, ev_andt, ev_orf, ev_ort, ev_call, ev_attr, ev_new, ev_seta, ev_meth, ev_bm, ev_sl, ev_pn, ev_ps, ev_asI, ev_fnx, ev_frt, ev_fx, ev_int, ev_intb, ev_isn, ev_isn1, ev_isn2, ev_isn3, ev_isn4, ev_isn5, ev_isnn, ev_isnn1, ev_isnn2, ev_isnn3, ev_isnn4, ev_isnn5, ev_fz, ev_chain, ev_newk, ev_sup, ev_zip, ev_enum, ev_yes, ev_min, ev_max, ev_ival, ev_it_t, ev_it_r, ev_it_s, List.map_cons, List.map_nil, List.length_cons, List.length_nil, List.replicate, List.cons_append, List.nil_append, List.set_cons_succ, List.set_cons_zero, List.getElem?_cons_succ, List.getElem?_cons_zero, Res.bind_ok, onR_ok, opi_add, opi_sub, cmi_lt, cmi_le, cmi_gt, cmi_ge, cmi_eq, cmi_ne, cms_eq, cms_ne, cmb_eq, cmb_ne, negI, absI, ix_0, ix_1, ix_2, ix_3, ixr0, ixr1, ixr2, ixr3, len_tup, len_rl, len_sc, tuple_rl, tuple_tup, list_rl, list_tup, list_sc, if_true, if_false, Bool.false_eq_true, Bool.not_false, Bool.not_true, decide_true, decide_false, set_last, get_last, gz_bl, gz_int, gz_str, gz_non, ne_eq, reduceIte, r2, show (.str "1/" : D) = .str (tS [49, 47]) from rfl, ct, r3]
    · rfl
  simp_all only [w1, w2]
  try rfl
end
theorem repL_ints {G : Gs} {W : Bp.Wd} : ∀ ns : List Int, RepL G W (ns.map .int) (ns.map V.int)
  | [] => .nil
  | n :: ns => .cons (.int n) (repL_ints ns)
theorem sp_law {K : PySem.W.Frag} {mg : Str → Option Value} {H : Hp} {a : Addr} {ns : List Int} (hS : SqL K H a (ns.map V.int)) : spM ⟨K, mg, tn, none⟩ 1 m_law [.ref a] H (fun v _ => v = .bl true) fun _ _ _ => False := by
  refine ⟨rfl, ⟨H, [], []⟩, [.sc (ns.map .int)], [], ⟨fun _ _ h => h, rfl, List.nodup_nil, fun _ _ h => (by simp at h), fun n a o h => (by simp at h)⟩, .cons (.sc _ _ a hS (repL_ints ns)) .nil, ?_⟩
  rw [pure_law ns]
  intro W' v H' _ _ r
  cases r
  rfl
end Lw



set_option Elab.async false
set_option linter.all false
set_option maxRecDepth 100000
set_option maxHeartbeats 0
open PySem PySem.W PySem.Calls PyProof.Rows
theorem Lw.a_call : WalkO Lw.Q0 Lw.loose (XL Lw.Q0 []) Lw.hk.says Lw.R.toRowW Lw.D0 [] fun f vs => PySem.call f vs := by
  refine Bp.walk_own (l := PySem.Challenge.rw_bestpapers_k02_fraction_texts) (n := 63) (k := 29) (x := "_law_script") rfl (by decide) (by kernel_rfl) ⟨rfl, by decide, by decide⟩ ?_
  intro w mg fa h Y G hmg0
  obtain ⟨K, KX, c⟩ := Y
  have hmg : mg ("law" : PySem.Str) = some (.ref fa) := by
    have e : Lw.D0.name = ("law" : PySem.Str) := by kernel_rfl
    rw [← e]
    exact hmg0
  have hfa : fa = He.ga K "law" := Bp.ga_uniq (Lw.gn KX G c.ck).g_law hmg
  subst hfa
  obtain ⟨fd, D, _⟩ := Lw.all_ok (P := PySem.Challenge.rw_bestpapers_k02_fraction_texts.prog) (w := w) (base := h) KX G c Lw.h_file Lw.h_top
  have b := L2.FunD.bindsA (ps := ["_law_script"]) D fun _ _ _ _ _ _ us hl => match us, hl with | [_], _ => rfl
  refine ⟨K, fd, Bp.spM ⟨K, mg, Lw.tn, none⟩ 1 Lw.m_law, KX, fun s v => b s [v] rfl, fun H a ns hl _ hS => Lw.sp_law hS, fun base hb hg => ?_⟩
  obtain ⟨fd2, D2, F⟩ := Lw.all_ok (P := PySem.Challenge.rw_bestpapers_k02_fraction_texts.prog) (w := w) (base := base) KX G c Lw.h_file Lw.h_top
  have e : fd2 = fd := by
    obtain ⟨_, _, _, _, _, _, _, _, _, _, e1, l1, _⟩ := D.ex
    obtain ⟨_, _, _, _, _, _, _, _, _, _, e2, l2, _⟩ := D2.ex
    have z := l1.symm.trans l2
    simp only [Option.some.injEq, PySem.Obj.mk.injEq] at z
    injection z.2.2.1 with z2
    exact z2.symm
  rw [← e]
  exact F
theorem PySem.Challenge.cw_bestpapers_k02_fraction_texts_holds : PySem.Challenge.rw_bestpapers_k02_fraction_texts.Holds := by
  w_on; refine Lw.enter fun _ => ?_
  refine HandSHeadRun.head_imp (r := Lw.R) (q := Lw.Q0) (H := Lw.hk) (ob := Lw.ob) (M := 2506) (loose := Lw.loose) (d := Lw.D0) (kwd := []) Lw.ob_eq Lw.run Lw.a_def Lw.a_p Lw.a_k Lw.a_wr Lw.a_k1 Lw.a_ok Lw.a_hb ?hw Lw.a_call
  case hw => w_witness2

