import PyProof.Rows.All
import Wide.All
import OpenK.AllK
import Wide.FinOn
import HandS.ForMost
import HandS.ForExc
import HandS.HeadHook1
import HandS.HeadHook2
import KE.KExcInit
import KE.KExcSuper
import HandS.ExcField
import HandS.ExcIs
import HandS.ExcInit
import HandS.Property
import HandS.HotCalls
import HandS.IsInst
import HandS.Codes
import KE.KStateDown
import HandS.Head0
import HandS.Head1
import HandS.Head2
import HandS.HeadEnd
import PySem.Challenge.RW_whichdepot_k03_turned_about
import HandS.Deep
import HandS.Wide
import HandS.SortRule
import HandS.SortInts
import HandS.Defaults
import HandS.SetFor
import HandS.Iter
import HandS.Conv
import HandS.DictComp
import HandS.SlotsOwn
import HandS.FStr
import KE.KCallOwn
set_option Elab.async false
set_option linter.all false
set_option maxRecDepth 100000
set_option maxHeartbeats 2000000
namespace VS
open PySem PySem.Spec PyProof.Rows L2 He
/-! ### what the head tells of properties, own exceptions, constants -/
structure PrD where
  cls : Str
  m : Str
  name : Str
  qual : Str
  params : Arguments
  body : List Stmt
  scope : Scope
def PrD.val (d : PrD) : FnW := some (d.name, d.qual, d.params, .stmts d.body, d.scope, mainGlobals, [], builtinsNs)
def pgA (K : PySem.W.Frag) (d : PrD) : Addr := match PySem.W.recIn K (ma K (ga K d.cls) d.m) "property" with
  | some (.ref g :: _) => g
  | _ => 0
def prW (K : PySem.W.Frag) (d : PrD) : FnW := match K.lookup (pgA K d) with
  | some ⟨_, _, .func fd, _⟩ => some (fd.name, fd.qualname, fd.params, fd.body, fd.scope, fd.globals, fd.closure, fd.builtins)
  | _ => none
def headRef : Option (List Value) → Bool
  | some (.ref _ :: _) => true
  | _ => false
def PrD.ok (K : PySem.W.Frag) (d : PrD) : Bool :=
  (eqO (PySem.W.findIn K (.ref (ga K d.cls)) d.m) (some (some (.ref (ma K (ga K d.cls) d.m)))) && eqO (PySem.W.specialIn K (.ref (ma K (ga K d.cls) d.m)) "__get__") (some (some (.builtin "property.__get__"))) && decide (PySem.W.takesIn K (.ref (ma K (ga K d.cls) d.m)) = some true) && headRef (PySem.W.recIn K (ma K (ga K d.cls) d.m) "property")) &&
  (PySem.W.keepIn K (.ref (pgA K d)) && (match K.lookup (pgA K d) with
    | some ⟨_, _, .func fd, _⟩ => PySem.W.codeIn K fd.code d.qual && (dflB K fd.defaults [] && kwdB K fd.kwdefaults [])
    | _ => false))
theorem PrD.prop {K : PySem.W.Frag} {d : PrD} (c : d.ok K = true) : PropOf K (ga K d.cls) d.m (ma K (ga K d.cls) d.m) (pgA K d) := by
  obtain ⟨h, _⟩ := ba c
  obtain ⟨h, h4⟩ := ba h
  obtain ⟨h, h3⟩ := ba h
  obtain ⟨h1, h2⟩ := ba h
  refine ⟨eqO_ok h1, eqO_ok h2, of_decide_eq_true h3, ?_⟩
  unfold pgA
  cases e : PySem.W.recIn K (ma K (ga K d.cls) d.m) "property" with
  | none => rw [e] at h4; cases h4
  | some l =>
    rw [e] at h4
    unfold headRef at h4
    split at h4
    · rename_i g r e2
      cases e2
      exact ⟨r, rfl⟩
    · cases h4
theorem PrD.fun_ {K : PySem.W.Frag} {d : PrD} (e : prW K d = d.val) (c0 : d.ok K = true) : ∃ fd, FunD K d.name d.qual d.params d.body d.scope [] [] (pgA K d) fd := by
  obtain ⟨_, c⟩ := ba c0
  obtain ⟨kp, c2⟩ := ba c
  unfold prW at e
  cases q : K.lookup (pgA K d) with
  | none => rw [q] at c2; cases c2
  | some ob =>
    obtain ⟨ocl, odi, dta, osl⟩ := ob
    rw [q] at c2 e
    cases dta with
    | func fd =>
      obtain ⟨n1, n2, n3, n4, n5, n6, n7, n8, n9, n10, n11, n12, n13, n14, n15⟩ := fd
      have e2 : (some (n1, n2, n3, n4, n5, n6, n7, n15) : FnW) = some (d.name, d.qual, d.params, .stmts d.body, d.scope, mainGlobals, [], builtinsNs) := e
      simp only [Option.some.injEq, Prod.mk.injEq] at e2
      obtain ⟨h1, h2, h3, h4, h5, h6, h7, h8⟩ := e2
      subst h1 h2 h3 h4 h5 h6 h7 h8
      obtain ⟨k1, k2⟩ := ba (show (PySem.W.codeIn K n13 d.qual && (dflB K n8 [] && kwdB K n9 [])) = true from c2)
      obtain ⟨k3, k4⟩ := ba k2
      exact ⟨_, ⟨ocl, odi, n8, n9, n10, n11, n12, n13, n14, osl, rfl, q, k1, dflB_ok (dvs := []) k3, kwdB_ok (kws := []) k4⟩, kp⟩
    | _ => cases c2
/-! own exceptions -/
structure ExD where
  x : Str
  pn : Str
  fld : Str
  name : Str
  qual : Str
  params : Arguments
  body : List Stmt
  scope : Scope
abbrev ExV : Type := Option (Str × Str × Arguments × FuncBody × Scope)
def ExD.val (d : ExD) : ExV := some (d.name, d.qual, d.params, .stmts d.body, d.scope)
def fiA (K : PySem.W.Frag) (x : Str) : Addr := ma K (ga K x) "__init__"
def exW (K : PySem.W.Frag) (d : ExD) : ExV := match K.lookup (fiA K d.x) with
  | some ⟨_, _, .func fd, _⟩ => some (fd.name, fd.qualname, fd.params, fd.body, fd.scope)
  | _ => none
def cellRef (K : PySem.W.Frag) (cc C : Addr) : Bool := match K.lookup cc with
  | some ⟨_, _, .cell (some (.ref D)), _⟩ => D == C
  | _ => false
def fileIn (K : PySem.W.Frag) (file : Str) (cda : Addr) : Bool := match K.lookup cda with
  | some ⟨_, _, .fields vs, _⟩ => (match (vs[2]? : Option Value) with
    | some (.str f _) => file == f
    | _ => false)
  | _ => false
def fdOk (K : PySem.W.Frag) (file : Str) (C : Addr) (fd : FuncData) : Bool := match fd.code, fd.closure, fd.defaults with
  | .ref cda, [(n, cc)], .none => (decide (n = "__class__") && cellRef K cc C && fileIn K file cda && PySem.W.codeIn K (.ref cda) fd.qualname) && (decide (fd.globals = mainGlobals) && decide (fd.builtins = builtinsNs))
  | _, _, _ => false
def clsOk (K : PySem.W.Frag) (C : Addr) : Bool := match K.lookup C with
  | some ⟨.type t, _, .cls cd, sl⟩ => decide (t = "type") && (match cd.mro, sl.toList with
    | .ref C' :: bm, [_, _, _, _, some (.builtin n), _] => C' == C && n == "ValueError.__new__" && !cd.hasDel && cd.hasDict && PySem.HandSPX.refsVE bm
    | _, _ => false)
  | _ => false
def ExD.ok (K : PySem.W.Frag) (file : Str) (d : ExD) : Bool :=
  (clsOk K (ga K d.x) && eqO (PySem.W.findIn K (.ref (ga K d.x)) "__setattr__") (some (some (.builtin "object.__setattr__"))) && decide (PySem.W.subIn K (.ref (ga K d.x)) (.type "BaseException") = some true) && decide (PySem.W.typeIn K (.ref (ga K d.x)) = some (.type "type")) && PySem.W.keepIn K (.ref (ga K d.x))) &&
  ((eqO (PySem.W.findIn K (.ref (ga K d.x)) "__getattribute__") (some (some (.builtin "BaseException.__getattribute__"))) && eqO (PySem.W.findIn K (.ref (ga K d.x)) "__getattr__") (some none) && eqO (PySem.W.findIn K (.ref (ga K d.x)) d.fld) (some none) && eqO (PySem.W.findIn K (.ref (ga K d.x)) "__init__") (some (some (.ref (fiA K d.x)))) && decide (PySem.W.typeIn K (.ref (fiA K d.x)) = some (.type "function"))) &&
  ((match K.lookup (fiA K d.x) with
    | some ⟨_, _, .func fd, _⟩ => fdOk K file (ga K d.x) fd
    | _ => false) &&
  (eqO (PySem.W.ks_superIn K (ga K d.x) (ga K d.x) "__init__") (some (some (.builtin "ValueError.__init__"))) && decide (PySem.W.subIn K (.ref (ga K d.x)) (.type "ValueError") = some true) && decide (PySem.W.mroIn K (ga K d.x) (.ref (ga K d.x)) = some true) && eqO (PySem.W.nsIn K cStatics "thirdparty.any") (some none))))
theorem clsOk_ok {K : PySem.W.Frag} {C : Addr} (h : clsOk K C = true) : ∃ nm q N bs bm sn sub ab col dd k0 k1 k2 k3 k5, K.lookup C = some (excClassObj nm q C N bs bm true sn sub ab col dd k0 k1 k2 k3 k5 "ValueError.__new__") ∧ PySem.HandSPX.refsVE bm = true := by
  unfold clsOk at h
  split at h
  · rename_i t dd cd sl ho
    obtain ⟨ht0, hh⟩ := ba h
    clear h
    have ht := of_decide_eq_true ht0
    clear ht0
    subst ht
    split at hh
    · rename_i C' bm k0 k1 k2 k3 n k5 hm hs
      obtain ⟨hh1, hv⟩ := ba hh
      obtain ⟨hh2, hdd⟩ := ba hh1
      obtain ⟨hh3, hdel0⟩ := ba hh2
      obtain ⟨g1, g2⟩ := ba hh3
      have e1 := beq_iff_eq.mp g1
      have e2 := beq_iff_eq.mp g2
      have hdel : cd.hasDel = false := by
        cases q : cd.hasDel with
        | true => rw [q] at hdel0; cases hdel0
        | false => rfl
      subst e1
      subst e2
      obtain ⟨nm, bs, mro, ns, qn, hd, sn, sub, ab, col, del⟩ := cd
      dsimp only at hm hdel hdd
      subst hm hdel hdd
      have hsl : sl = #[k0, k1, k2, k3, some (.builtin "ValueError.__new__"), k5] := by
        obtain ⟨l⟩ := sl
        simp only at hs
        rw [hs]
      subst hsl
      exact ⟨nm, qn, ns, bs, bm, sn, sub, ab, col, dd, k0, k1, k2, k3, k5, ho, hv⟩
    · cases hh
  · cases h
def conB (K : PySem.W.Frag) (q : Str × Str × Int) : Bool := match PySem.W.findIn K (.ref (ga K q.1)) q.2.1 with
  | some (some (.int j t)) => decide (j = q.2.2) && eqO (PySem.W.specialIn K (.int j t) "__get__") (some none) && !PySem.W.copiedNames.contains q.2.1
  | _ => false
theorem conB_ok {K : PySem.W.Frag} {c f : Str} {v : Int} (h : conB K (c, f, v) = true) : ∃ u, Con K (ga K c) f (.int v) u := by
  unfold conB at h
  split at h
  · rename_i j t e
    simp only [Bool.and_eq_true, Bool.not_eq_true', decide_eq_true_eq] at h
    obtain ⟨⟨h1, h2⟩, h3⟩ := h
    subst h1
    exact ⟨_, e, ⟨t, rfl⟩, eqO_ok h2, h3⟩
  · cases h
def excB (K : PySem.W.Frag) (x : Str) : Bool :=
  (eqO (PySem.W.findIn K (.ref (ga K x)) "__getattribute__") (some (some (.builtin "BaseException.__getattribute__"))) && eqO (PySem.W.findIn K (.ref (ga K x)) "__getattr__") (some none) && decide (PySem.W.subIn K (.ref (ga K x)) (.type "BaseException") = some true) && PySem.W.hasDictIn K (ga K x)) &&
  (eqO (PySem.W.findIn K (.ref (ga K x)) "__class__") (some (some (.builtin "object.__class__"))) && eqO (PySem.W.specialIn K (.builtin "object.__class__") "__get__") (some (some (.builtin "getset_descriptor.__get__"))) && decide (PySem.W.takesIn K (.builtin "object.__class__") = some true) && decide (PySem.W.mroIn K (ga K x) (.type "object") = some true))
theorem excB_ok {K : PySem.W.Frag} {x : Str} (h : excB K x = true) : ExcC K (ga K x) ∧ XfC K (ga K x) := by
  obtain ⟨h, k⟩ := ba h
  obtain ⟨h, h4⟩ := ba h
  obtain ⟨h, h3⟩ := ba h
  obtain ⟨h1, h2⟩ := ba h
  obtain ⟨k, k4⟩ := ba k
  obtain ⟨k, k3⟩ := ba k
  obtain ⟨k1, k2⟩ := ba k
  exact ⟨⟨eqO_ok h1, eqO_ok h2, of_decide_eq_true h3, h4, eqO_ok k1, eqO_ok k2, of_decide_eq_true k3, of_decide_eq_true k4⟩, ⟨eqO_ok h1, eqO_ok h2, of_decide_eq_true h3, h4⟩⟩
def kitN (K : PySem.W.Frag) (base : Str) (cl : List Str) (x : Str) : Bool := excB K x && (cl.all fun y => decide (PySem.W.kitOne K (.ref (ga K x)) (.ref (ga K y)) = some (decide (y = x)))) && decide (PySem.W.kitOne K (.ref (ga K x)) (.type "ValueError") = some true) && decide (PySem.W.exmOne K (.ref (ga K x)) (.ref (ga K base)) = some true)
/-- isinstance of the own class x -/
def insB (K : PySem.W.Frag) (x : Str) : Bool := eqO (PySem.W.findIn K (.ref (ga K x)) "__class__") (some (some (.builtin "object.__class__"))) && eqO (PySem.W.specialIn K (.builtin "object.__class__") "__get__") (some (some (.builtin "getset_descriptor.__get__"))) && decide (PySem.W.takesIn K (.builtin "object.__class__") = some true) && decide (PySem.W.mroIn K (ga K x) (.type "object") = some true)
theorem insB_ok {K : PySem.W.Frag} {x : Str} (h : insB K x = true) (c : Cls K (ga K x)) : C8.InsC K (ga K x) := by
  obtain ⟨k, k4⟩ := ba h
  obtain ⟨k, k3⟩ := ba k
  obtain ⟨k1, k2⟩ := ba k
  refine ⟨c, eqO_ok k1, eqO_ok k2, of_decide_eq_true k3, of_decide_eq_true k4, ?_⟩
  unfold PySem.W.kitOne
  simp
/-! ### the Hook -/
structure HV where
  file : Str
  fa : List Fa
  fn : List DefD
  pr : List PrD
  ex : List ExD
  con : List (Str × Str × Int)
  base : Str
  cl : List Str
  kn : List Str
  deep : List Str
  ins : List Str
  adr : List Addr
theorem lookup_memA {a : Addr} {o : Obj} : ∀ {l : List (Addr × Obj)}, l.lookup a = some o → (a, o) ∈ l
  | [], e => by cases e
  | (b, x) :: r, e => by
    unfold List.lookup at e
    split at e
    · rename_i h
      have := beq_iff_eq.mp h
      subst this
      cases e
      exact List.mem_cons_self
    · exact List.mem_cons_of_mem _ (lookup_memA e)
def noList (K : PySem.W.Frag) : Bool := K.all fun p => match p.2.cls with
  | .type t => !(t == "list")
  | _ => true
theorem noList_ok {K : PySem.W.Frag} (h : noList K = true) {a : Addr} {o : Obj} (e : K.lookup a = some o) : o.cls ≠ .type "list" := by
  intro z
  have := List.all_eq_true.mp h (a, o) (lookup_memA e)
  simp only [z] at this
  simp at this
abbrev AlV : Type := AlD × List FnW × List ExV × Bool
def obsV (v : HV) (K : PySem.W.Frag) : AlV := (obsD v.fa v.fn K, v.pr.map (prW K), v.ex.map (exW K), (v.pr.all fun d => d.ok K) && (v.ex.all fun d => d.ok K v.file) && (v.con.all (conB K)) && v.kn.all (kitN K v.base v.cl) && v.ins.all (insB K) && noList K)
def valV (v : HV) : AlV := (valD v.fn, v.pr.map PrD.val, v.ex.map ExD.val, true)
def growV (g : Addr → Option Obj) : Nat → List Addr → List Addr
  | 0, as => as
  | n + 1, as => growV g n (growD g as)
def asV (n : Nat) (v : HV) (g : Addr → Option Obj) : List Addr := match v.adr with
  | [] => mainGlobals :: cStatics :: (v.cl.map (ga (frG g [mainGlobals])) ++ growV g n (v.deep.map (ga (frG g [mainGlobals]))))
  | as => as
/-- a list of places as one number -/
def encA (as : List Addr) : Nat := as.foldl (fun z a => z * 1048576 + a) 1
def obsVG (n : Nat) (v : HV) (g : Addr → Option Obj) : AlV := obsV v (frG g (asV n v g))
def hookV (n : Nat) (v : HV) : PySem.W.Hook where
  α := AlV
  obs := fun s => obsVG n v s.heap.get?
  val := fun _ => valV v
  says := fun _ h => ∃ K : PySem.W.Frag, K.In h ∧ obsV v K = valV v
  of := fun _ _ e => ⟨_, frG_in, e⟩
  keeps := fun _ _ _ ⟨K, hK, c⟩ k => ⟨K, PySem.W.Frag.In.keeps hK k, c⟩
theorem obsVG_eq {n : Nat} {v : HV} {g : Addr → Option Obj} {s : Shared} (h : ∀ a, g a = s.heap.get? a) : obsVG n v g = (hookV n v).obs s := by
  have e : g = s.heap.get? := funext h
  rw [e] <;> rfl
theorem at_map {α β : Type} {f g : α → β} : ∀ {l : List α} (i : Nat) {d : α}, l.map f = l.map g → l[i]? = some d → f d = g d
  | [], i, d, _, h => by cases i <;> cases h
  | a :: l, 0, d, e, h => by cases h; exact (List.cons.inj e).1
  | a :: l, i + 1, d, e, h => at_map (l := l) i (List.cons.inj e).2 (by simpa using h)
end VS
set_option Elab.async false
set_option linter.all false
set_option maxRecDepth 100000
set_option maxHeartbeats 0
namespace Lw
open PySem PySem.Spec PyProof.Rows L2 VS
def top (i : Nat) : Stmt := PySem.Challenge.pw_whichdepot_k03_turned_about.main.body.getD i (.Pass ⟨0, 0, 0, 0⟩)
def clsBody (s : Stmt) : List Stmt := match s with
  | .ClassDef _ _ _ b _ _ _ _ _ _ _ => b
  | _ => []
def fn : List He.DefD := ([⟨("Network", some "__len__"), "__len__", "Network.__len__", defArgs ((clsBody (top 55)).getD 16 (.Pass ⟨0, 0, 0, 0⟩)), defBody ((clsBody (top 55)).getD 16 (.Pass ⟨0, 0, 0, 0⟩)), defScope ((clsBody (top 55)).getD 16 (.Pass ⟨0, 0, 0, 0⟩)), [], []⟩, ⟨("_law_cell_of", none), "_law_cell_of", "_law_cell_of", defArgs (top 57), defBody (top 57), defScope (top 57), [], []⟩, ⟨("_law_source", none), "_law_source", "_law_source", defArgs (top 58), defBody (top 58), defScope (top 58), [], []⟩, ⟨("_law_take", none), "_law_take", "_law_take", defArgs (top 59), defBody (top 59), defScope (top 59), [], []⟩, ⟨("_law_draw", none), "_law_draw", "_law_draw", defArgs (top 60), defBody (top 60), defScope (top 60), [], []⟩, ⟨("Network", some "__eq__"), "__eq__", "Network.__eq__", defArgs ((clsBody (top 55)).getD 18 (.Pass ⟨0, 0, 0, 0⟩)), defBody ((clsBody (top 55)).getD 18 (.Pass ⟨0, 0, 0, 0⟩)), defScope ((clsBody (top 55)).getD 18 (.Pass ⟨0, 0, 0, 0⟩)), [], []⟩, ⟨("Network", some "__contains__"), "__contains__", "Network.__contains__", defArgs ((clsBody (top 55)).getD 15 (.Pass ⟨0, 0, 0, 0⟩)), defBody ((clsBody (top 55)).getD 15 (.Pass ⟨0, 0, 0, 0⟩)), defScope ((clsBody (top 55)).getD 15 (.Pass ⟨0, 0, 0, 0⟩)), [], []⟩, ⟨("_law_mirrored", none), "_law_mirrored", "_law_mirrored", defArgs (top 61), defBody (top 61), defScope (top 61), [], []⟩, ⟨("_law_draw_odd", none), "_law_draw_odd", "_law_draw_odd", defArgs (top 74), defBody (top 74), defScope (top 74), [], []⟩, ⟨("check_size", none), "check_size", "check_size", defArgs (top 42), defBody (top 42), defScope (top 42), [], []⟩, ⟨("fresh_labels", none), "fresh_labels", "fresh_labels", defArgs (top 48), defBody (top 48), defScope (top 48), [], []⟩, ⟨("join_labels", none), "join_labels", "join_labels", defArgs (top 49), defBody (top 49), defScope (top 49), [], []⟩, ⟨("labels_of", none), "labels_of", "labels_of", defArgs (top 50), defBody (top 50), defScope (top 50), [], []⟩, ⟨("check_depot", none), "check_depot", "check_depot", defArgs (top 43), defBody (top 43), defScope (top 43), [], []⟩, ⟨("check_customer", none), "check_customer", "check_customer", defArgs (top 44), defBody (top 44), defScope (top 44), [], []⟩, ⟨("Network", some "pieces"), "pieces", "Network.pieces", defArgs ((clsBody (top 55)).getD 12 (.Pass ⟨0, 0, 0, 0⟩)), defBody ((clsBody (top 55)).getD 12 (.Pass ⟨0, 0, 0, 0⟩)), defScope ((clsBody (top 55)).getD 12 (.Pass ⟨0, 0, 0, 0⟩)), [], []⟩, ⟨("Network", some "__init__"), "__init__", "Network.__init__", defArgs ((clsBody (top 55)).getD 2 (.Pass ⟨0, 0, 0, 0⟩)), defBody ((clsBody (top 55)).getD 2 (.Pass ⟨0, 0, 0, 0⟩)), defScope ((clsBody (top 55)).getD 2 (.Pass ⟨0, 0, 0, 0⟩)), [], []⟩, ⟨("Network", some "turned"), "turned", "Network.turned", defArgs ((clsBody (top 55)).getD 14 (.Pass ⟨0, 0, 0, 0⟩)), defBody ((clsBody (top 55)).getD 14 (.Pass ⟨0, 0, 0, 0⟩)), defScope ((clsBody (top 55)).getD 14 (.Pass ⟨0, 0, 0, 0⟩)), [], []⟩, ⟨("Network", some "__str__"), "__str__", "Network.__str__", defArgs ((clsBody (top 55)).getD 19 (.Pass ⟨0, 0, 0, 0⟩)), defBody ((clsBody (top 55)).getD 19 (.Pass ⟨0, 0, 0, 0⟩)), defScope ((clsBody (top 55)).getD 19 (.Pass ⟨0, 0, 0, 0⟩)), [], []⟩, ⟨("check_route", none), "check_route", "check_route", defArgs (top 45), defBody (top 45), defScope (top 45), [], []⟩] : List He.DefD) ++ ([⟨("Network", some "index_of"), "index_of", "Network.index_of", defArgs ((clsBody (top 55)).getD 13 (.Pass ⟨0, 0, 0, 0⟩)), defBody ((clsBody (top 55)).getD 13 (.Pass ⟨0, 0, 0, 0⟩)), defScope ((clsBody (top 55)).getD 13 (.Pass ⟨0, 0, 0, 0⟩)), [], []⟩, ⟨("_law_classes", none), "_law_classes", "_law_classes", defArgs (top 63), defBody (top 63), defScope (top 63), [], []⟩, ⟨("_law_refusal", none), "_law_refusal", "_law_refusal", defArgs (top 64), defBody (top 64), defScope (top 64), [], []⟩, ⟨("Network", some "customers_of"), "customers_of", "Network.customers_of", defArgs ((clsBody (top 55)).getD 9 (.Pass ⟨0, 0, 0, 0⟩)), defBody ((clsBody (top 55)).getD 9 (.Pass ⟨0, 0, 0, 0⟩)), defScope ((clsBody (top 55)).getD 9 (.Pass ⟨0, 0, 0, 0⟩)), [], []⟩, ⟨("Network", some "depots_of"), "depots_of", "Network.depots_of", defArgs ((clsBody (top 55)).getD 10 (.Pass ⟨0, 0, 0, 0⟩)), defBody ((clsBody (top 55)).getD 10 (.Pass ⟨0, 0, 0, 0⟩)), defScope ((clsBody (top 55)).getD 10 (.Pass ⟨0, 0, 0, 0⟩)), [], []⟩, ⟨("check_lot", none), "check_lot", "check_lot", defArgs (top 46), defBody (top 46), defScope (top 46), [], []⟩, ⟨("Network", some "reach"), "reach", "Network.reach", defArgs ((clsBody (top 55)).getD 11 (.Pass ⟨0, 0, 0, 0⟩)), defBody ((clsBody (top 55)).getD 11 (.Pass ⟨0, 0, 0, 0⟩)), defScope ((clsBody (top 55)).getD 11 (.Pass ⟨0, 0, 0, 0⟩)), [], []⟩, ⟨("_law_ask", none), "_law_ask", "_law_ask", defArgs (top 65), defBody (top 65), defScope (top 65), [], []⟩, ⟨("_law_all_told", none), "_law_all_told", "_law_all_told", defArgs (top 66), defBody (top 66), defScope (top 66), [], []⟩, ⟨("_law_same", none), "_law_same", "_law_same", defArgs (top 62), defBody (top 62), defScope (top 62), [], []⟩, ⟨("_law_linked", none), "_law_linked", "_law_linked", defArgs (top 67), defBody (top 67), defScope (top 67), [], []⟩, ⟨("_law_pieces_due", none), "_law_pieces_due", "_law_pieces_due", defArgs (top 68), defBody (top 68), defScope (top 68), [], []⟩, ⟨("_law_written", none), "_law_written", "_law_written", defArgs (top 71), defBody (top 71), defScope (top 71), [], []⟩, ⟨("_law_index_due", none), "_law_index_due", "_law_index_due", defArgs (top 70), defBody (top 70), defScope (top 70), [], []⟩, ⟨("_law_reach_due", none), "_law_reach_due", "_law_reach_due", defArgs (top 69), defBody (top 69), defScope (top 69), [], []⟩, ⟨("_law_all_due", none), "_law_all_due", "_law_all_due", defArgs (top 72), defBody (top 72), defScope (top 72), [], []⟩, ⟨("_law_right", none), "_law_right", "_law_right", defArgs (top 73), defBody (top 73), defScope (top 73), [], []⟩, ⟨("_law_right_world", none), "_law_right_world", "_law_right_world", defArgs (top 75), defBody (top 75), defScope (top 75), [], []⟩, ⟨("law", none), "law", "law", defArgs (top 76), defBody (top 76), defScope (top 76), [], []⟩] : List He.DefD)
def fa : List He.Fa := ([.cls "Network", .noat "Network" "_routes", .free "len", .free "int", .glo "_law_cell_of", .free "range", .glo "_law_take", .free "min", .free "isinstance", .glo "Network", .noat "Network" "_depots", .noat "Network" "_customers", .free "tuple", .noat "Network" "_indexes", .free "max", .free "super", .free "list", .glo "BadSize", .glo "fresh_labels", .glo "join_labels"] : List He.Fa) ++ ([.glo "NoDepot", .glo "NoCustomer", .noat "Network" "_labels", .free "enumerate", .glo "check_size", .glo "check_depot", .glo "check_customer", .free "sorted", .glo "labels_of", .noat "Network" "_joined", .noat "Network" "_loops", .meth "Network" "pieces", .mkr "Network", .meth "Network" "__contains__", .glo "NoRoute", .glo "check_route", .glo "BadColumn", .glo "BadCount", .glo "BadDeed", .glo "BadLength"] : List He.Fa) ++ ([.glo "BadLine", .glo "Below", .glo "Closes", .glo "DeedRefused", .glo "NoCycle", .glo "NoDemand", .glo "NoLink", .glo "NoNumber", .glo "NoPlace", .glo "NoSupply", .glo "NotAcross", .glo "NotFlexible", .glo "NotInTree", .glo "NotInner", .glo "NotJoined", .glo "NotMore", .glo "NotPriced", .glo "NotSpanning", .glo "NotSpanningSet", .glo "NothingLeft"] : List He.Fa) ++ ([.glo "OtherNetwork", .glo "OtherTotals", .glo "Overflow", .glo "Repeated", .glo "SameEnds", .glo "Short", .glo "Stranded", .glo "TooMany", .glo "Unbalanced", .glo "Unfair", .glo "Unread", .free "ValueError", .glo "_law_classes", .glo "check_lot", .meth "Network" "customers_of", .meth "Network" "depots_of", .meth "Network" "reach", .meth "Network" "index_of", .glo "_law_refusal", .glo "DepotError"] : List He.Fa) ++ ([.meth "Network" "__len__", .meth "Network" "__str__", .free "str", .glo "_law_ask", .free "bool", .glo "_law_same", .glo "_law_linked", .glo "_law_pieces_due", .glo "_law_written", .glo "_law_index_due", .glo "_law_reach_due", .glo "_law_all_told", .glo "_law_all_due", .meth "Network" "__eq__", .glo "_law_draw_odd", .meth "Network" "turned", .glo "_law_right", .glo "_law_source", .glo "_law_draw", .glo "_law_mirrored"] : List He.Fa) ++ ([.glo "_law_right_world", .glo "law"] : List He.Fa)
def clsL : List Str := (["BadSize", "BadLength", "BadCount", "TooMany", "NoDepot", "NoCustomer", "NoPlace", "NoLink", "SameEnds", "Stranded", "NoSupply", "NoDemand", "NotMore", "NoRoute", "NotInTree", "NotAcross", "NotPriced", "Closes", "Short", "Below"] : List Str) ++ (["Repeated", "NotJoined", "NotSpanning", "Unbalanced", "Overflow", "Unfair", "NoCycle", "NotFlexible", "NotSpanningSet", "NoNumber", "Unread", "BadColumn", "BadDeed", "BadLine", "DeedRefused", "OtherNetwork", "OtherTotals", "NotInner", "NothingLeft"] : List Str)
def knL : List Str := ["NoDepot", "NoCustomer", "NoRoute", "Repeated"]
abbrev RowL : PySem.W.OpenRow := PySem.W.OpenLaw.row PySem.Challenge.rw_whichdepot_k03_turned_about
def prL : List PrD := ([⟨"Network", "depots", "depots", "Network.depots", defArgs ((clsBody (top 55)).getD 4 (.Pass ⟨0, 0, 0, 0⟩)), defBody ((clsBody (top 55)).getD 4 (.Pass ⟨0, 0, 0, 0⟩)), defScope ((clsBody (top 55)).getD 4 (.Pass ⟨0, 0, 0, 0⟩))⟩, ⟨"Network", "customers", "customers", "Network.customers", defArgs ((clsBody (top 55)).getD 5 (.Pass ⟨0, 0, 0, 0⟩)), defBody ((clsBody (top 55)).getD 5 (.Pass ⟨0, 0, 0, 0⟩)), defScope ((clsBody (top 55)).getD 5 (.Pass ⟨0, 0, 0, 0⟩))⟩, ⟨"Network", "routes", "routes", "Network.routes", defArgs ((clsBody (top 55)).getD 6 (.Pass ⟨0, 0, 0, 0⟩)), defBody ((clsBody (top 55)).getD 6 (.Pass ⟨0, 0, 0, 0⟩)), defScope ((clsBody (top 55)).getD 6 (.Pass ⟨0, 0, 0, 0⟩))⟩, ⟨"Network", "loops", "loops", "Network.loops", defArgs ((clsBody (top 55)).getD 7 (.Pass ⟨0, 0, 0, 0⟩)), defBody ((clsBody (top 55)).getD 7 (.Pass ⟨0, 0, 0, 0⟩)), defScope ((clsBody (top 55)).getD 7 (.Pass ⟨0, 0, 0, 0⟩))⟩, ⟨"Network", "joined", "joined", "Network.joined", defArgs ((clsBody (top 55)).getD 8 (.Pass ⟨0, 0, 0, 0⟩)), defBody ((clsBody (top 55)).getD 8 (.Pass ⟨0, 0, 0, 0⟩)), defScope ((clsBody (top 55)).getD 8 (.Pass ⟨0, 0, 0, 0⟩))⟩] : List PrD)
def exL : List ExD := ([⟨"BadSize", "size", "size", "__init__", "BadSize.__init__", defArgs ((clsBody (top 2)).getD 0 (.Pass ⟨0, 0, 0, 0⟩)), defBody ((clsBody (top 2)).getD 0 (.Pass ⟨0, 0, 0, 0⟩)), defScope ((clsBody (top 2)).getD 0 (.Pass ⟨0, 0, 0, 0⟩))⟩, ⟨"NoDepot", "depot", "depot", "__init__", "NoDepot.__init__", defArgs ((clsBody (top 6)).getD 0 (.Pass ⟨0, 0, 0, 0⟩)), defBody ((clsBody (top 6)).getD 0 (.Pass ⟨0, 0, 0, 0⟩)), defScope ((clsBody (top 6)).getD 0 (.Pass ⟨0, 0, 0, 0⟩))⟩, ⟨"NoCustomer", "customer", "customer", "__init__", "NoCustomer.__init__", defArgs ((clsBody (top 7)).getD 0 (.Pass ⟨0, 0, 0, 0⟩)), defBody ((clsBody (top 7)).getD 0 (.Pass ⟨0, 0, 0, 0⟩)), defScope ((clsBody (top 7)).getD 0 (.Pass ⟨0, 0, 0, 0⟩))⟩, ⟨"Repeated", "entry", "entry", "__init__", "Repeated.__init__", defArgs ((clsBody (top 22)).getD 0 (.Pass ⟨0, 0, 0, 0⟩)), defBody ((clsBody (top 22)).getD 0 (.Pass ⟨0, 0, 0, 0⟩)), defScope ((clsBody (top 22)).getD 0 (.Pass ⟨0, 0, 0, 0⟩))⟩, ⟨"NoRoute", "route", "route", "__init__", "NoRoute.__init__", defArgs ((clsBody (top 15)).getD 0 (.Pass ⟨0, 0, 0, 0⟩)), defBody ((clsBody (top 15)).getD 0 (.Pass ⟨0, 0, 0, 0⟩)), defScope ((clsBody (top 15)).getD 0 (.Pass ⟨0, 0, 0, 0⟩))⟩] : List ExD)
def hv : HV := ⟨RowL.prog.main.file, fa, fn, prL, exL, ([("Network", "MOST_PLACES", 8), ("Network", "MOST_ROUTES", 16)] : List (Str × Str × Int)), "DepotError", clsL, knL, (["_law_cell_of", "_law_source", "_law_take", "_law_draw", "_law_mirrored", "_law_draw_odd", "check_size", "fresh_labels", "join_labels", "labels_of", "check_depot", "check_customer", "check_route", "_law_classes", "_law_refusal", "check_lot", "_law_ask", "_law_all_told", "_law_same", "_law_linked"] : List Str) ++ (["_law_pieces_due", "_law_written", "_law_index_due", "_law_reach_due", "_law_all_due", "_law_right", "_law_right_world", "law", "Network", "BadSize", "NoDepot", "NoCustomer", "Repeated", "NoRoute", "DepotError"] : List Str), ["Network"], ([3, 2, 46, 67, 88, 109, 130, 151, 172, 193, 214, 235, 256, 277, 298, 319, 340, 361, 382, 403] : List Addr) ++ ([424, 445, 466, 487, 508, 529, 550, 571, 592, 613, 634, 655, 676, 697, 718, 739, 760, 781, 802, 823] : List Addr) ++ ([844, 1041, 1048, 1055, 1062, 1069, 1154, 853, 888, 895, 902, 860, 867, 874, 1083, 1090, 881, 1097, 1104, 1076] : List Addr) ++ ([1109, 1114, 1135, 1128, 1121, 1140, 1147, 1159, 1166, 1030, 24, 1040, 1047, 1054, 1061, 1068, 1153, 852, 887, 894] : List Addr) ++ ([901, 859, 866, 873, 1082, 1089, 880, 1096, 1103, 1075, 1108, 1113, 1134, 1127, 1120, 1139, 1146, 1158, 1165, 1029] : List Addr) ++ ([45, 129, 150, 465, 318, 23, 1035, 1036, 1037, 1038, 1039, 1042, 1043, 1044, 1045, 1046, 1049, 1050, 1051, 1052] : List Addr) ++ ([1053, 1056, 1057, 1058, 1059, 1060, 1063, 1064, 1065, 1066, 1067, 1148, 1149, 1150, 1151, 1152, 847, 848, 849, 850] : List Addr) ++ ([851, 882, 883, 884, 885, 886, 889, 890, 891, 892, 893, 896, 897, 898, 899, 900, 854, 855, 856, 857] : List Addr) ++ ([858, 861, 862, 863, 864, 865, 868, 869, 870, 871, 872, 1077, 1078, 1079, 1080, 1081, 1084, 1085, 1086, 1087] : List Addr) ++ ([1088, 875, 876, 877, 878, 879, 1091, 1092, 1093, 1094, 1095, 1098, 1099, 1100, 1101, 1102, 1070, 1071, 1072, 1073] : List Addr) ++ ([1074, 1105, 1106, 1107, 1110, 1111, 1112, 1129, 1130, 1131, 1132, 1133, 1122, 1123, 1124, 1125, 1126, 1115, 1116, 1117] : List Addr) ++ ([1118, 1119, 1136, 1137, 1138, 1141, 1142, 1143, 1144, 1145, 1155, 1156, 1157, 1160, 1161, 1162, 1163, 1164, 914, 921] : List Addr) ++ ([930, 938, 946, 954, 962, 967, 972, 977, 982, 989, 994, 1001, 1008, 1015, 1022, 1027, 1028, 1031, 1032, 43] : List Addr) ++ ([44, 127, 128, 148, 149, 463, 464, 316, 317, 22, 25, 913, 919, 920, 929, 937, 945, 953, 961, 966] : List Addr) ++ ([971, 976, 981, 988, 993, 1000, 1007, 1014, 1021, 1026, 42, 31, 126, 115, 147, 136, 462, 451, 315, 304] : List Addr) ++ ([910, 911, 912, 918, 922, 928, 936, 944, 952, 960, 963, 964, 965, 968, 969, 970, 973, 974, 975, 978] : List Addr) ++ ([979, 980, 983, 984, 985, 986, 987, 990, 991, 992, 995, 996, 997, 998, 999, 1002, 1003, 1004, 1005, 1006] : List Addr) ++ ([1009, 1010, 1011, 1012, 1013, 1016, 1017, 1018, 1019, 1020, 1023, 1024, 1025, 37, 38, 39, 40, 41, 121, 122] : List Addr) ++ ([123, 124, 125, 142, 143, 144, 145, 146, 457, 458, 459, 460, 461, 310, 311, 312, 313, 314] : List Addr)⟩
def loose : List PySem.Str := (["DepotError", "BadSize", "BadLength", "BadCount", "TooMany", "NoDepot", "NoCustomer", "NoPlace", "NoLink", "SameEnds", "Stranded", "NoSupply", "NoDemand", "NotMore", "NoRoute", "NotInTree", "NotAcross", "NotPriced", "Closes", "Short"] : List PySem.Str) ++ (["Below", "Repeated", "NotJoined", "NotSpanning", "Unbalanced", "Overflow", "Unfair", "NoCycle", "NotFlexible", "NotSpanningSet", "NoNumber", "Unread", "BadColumn", "BadDeed", "BadLine", "DeedRefused", "OtherNetwork", "OtherTotals", "NotInner", "NothingLeft"] : List PySem.Str) ++ (["check_size", "check_depot", "check_customer", "check_route", "check_lot", "fresh_labels", "join_labels", "labels_of", "DIGITS", "HEAD_FORM", "ROUTE_FORM", "Network", "_law_cell_of", "_law_source", "_law_take", "_law_draw", "_law_mirrored", "_law_same", "_law_classes", "_law_refusal"] : List PySem.Str) ++ (["_law_ask", "_law_all_told", "_law_linked", "_law_pieces_due", "_law_reach_due", "_law_index_due", "_law_written", "_law_all_due", "_law_right", "_law_draw_odd", "_law_right_world"] : List PySem.Str)
abbrev hk : PySem.W.Hook := hookV 4 hv
def ob (s : PySem.W.SharedT) : AlV := obsVG 4 hv (HandSHeadRun.getT s)
theorem ob_eq (s : PySem.W.SharedT) : ob s = hk.obs s.abs := obsVG_eq (HandSHeadRun.getT_eq s)
theorem run (w : World) : HandSHeadRun.RunEq RowL (PySem.W.view RowL.prog [76]) hk ob 40000 loose w := by
  intro os
  kernel_rfl
end Lw
set_option Elab.async false
set_option linter.all false
set_option maxRecDepth 100000
namespace VS
open PySem L2

/-- data as trees -/
inductive D where
  | jnk
  | atm (v : V)
  | lst (own : Bool) (xs : List D)
  | tup (xs : List D)
  | ins (own : Bool) (c : Addr) (ns : List Str) (ds : List D)
  | xdt (ns : List Str) (ds : List D)
  | scr (xs : List Int)
  | hol (v : V)
  | exo (a da c : Addr) (ns : List Str) (ds : List D)
  | cls (c : Addr)
  | dct (own : Bool) (ks : List (List L2.Key)) (ds : List D)
  | gho (S : Hp)

def Le (G H : Hp) : Prop := ∀ a o, G a = some o → H a = some o
def LocD (G H : Hp) (a : Addr) (o : HO) (F1 F : List Addr) : Bool → Prop
  | true => H a = some o ∧ F = a :: F1
  | false => G a = some o ∧ F1 = [] ∧ F = []
def NR (v : V) : Prop := ∀ a, v ≠ .ref a

mutual
def Rep (G H : Hp) : D → Option V → List Addr → Prop
  | .jnk, _, F => F = []
  | .atm v, o, F => o = some v ∧ NR v ∧ F = []
  | .lst own xs, o, F => ∃ a vs F1, o = some (V.ref a) ∧ Reps G H xs vs F1 ∧ LocD G H a (.lst vs) F1 F own
  | .tup xs, o, F => ∃ a vs, o = some (V.ref a) ∧ Reps G H xs vs F ∧ G a = some (.tup vs)
  | .ins own c ns xs, o, F => ∃ a dx vs F1, o = some (V.ref a) ∧ Reps G H xs vs F1 ∧ ns.length = xs.length ∧ LocD G H a (.ins c dx (ns.zip vs)) F1 F own
  | .xdt ns xs, o, F => ∃ a vs, o = some (V.ref a) ∧ Reps G H xs vs F ∧ ns.length = xs.length ∧ G a = some (.xd (ns.zip vs))
  | .scr xs, o, F => ∃ a, o = some (V.ref a) ∧ Rd G a (.lst (xs.map V.int)) ∧ F = []
  | .hol v, o, F => o = some v ∧ F = []
  | .exo a da c ns xs, o, F => ∃ vs, o = some (V.ref a) ∧ Reps G H xs vs F ∧ ns.length = xs.length ∧ G da = some (.xd (ns.zip vs))
  | .cls c, o, F => o = some (V.ref c) ∧ F = []
  | .dct own ks xs, o, F => ∃ a vs F1, o = some (V.ref a) ∧ Reps G H xs vs F1 ∧ ks.length = xs.length ∧ LocD G H a (.dT (ks.zip vs)) F1 F own
  | .gho S, _, F => Le S G ∧ F = []
def Reps (G H : Hp) : List D → List V → List Addr → Prop
  | [], vs, F => vs = [] ∧ F = []
  | d :: ds, vs, F => ∃ v vr F1 F2, vs = v :: vr ∧ F = F1 ++ F2 ∧ Rep G H d (some v) F1 ∧ Reps G H ds vr F2
end
abbrev Ent := D × Option V
def RepL (G H : Hp) : List Ent → List Addr → Prop
  | [], F => F = []
  | (d, o) :: L, F => ∃ F1 F2, F = F1 ++ F2 ∧ Rep G H d o F1 ∧ RepL G H L F2
def SI (H : Hp) (L : List Ent) : Prop := ∃ G F, RepL G H L F ∧ F.Nodup ∧ (∀ a ∈ F, G a = none) ∧ Le G H

theorem Rd.le {G G' : Hp} {a : Addr} {u : HO} (h : Rd G a u) (l : Le G G') : Rd G' a u := by
  rcases h with h | ⟨o, h⟩
  · exact .inl (l _ _ h)
  · exact .inr ⟨o, l _ _ h⟩
theorem Rd.isSm {G : Hp} {a : Addr} {u : HO} (h : Rd G a u) : G a ≠ none := by
  rcases h with h | ⟨o, h⟩ <;> rw [h] <;> exact fun z => by cases z
theorem LocD.mono {G H G' H' : Hp} {a : Addr} {o : HO} {F1 F : List Addr} {own : Bool} (h : LocD G H a o F1 F own) (l : Le G G') (k : ∀ a ∈ F, H' a = H a) : LocD G' H' a o F1 F own := by
  cases own with
  | true => exact ⟨by rw [k a (by rw [h.2]; exact List.mem_cons_self)]; exact h.1, h.2⟩
  | false => exact ⟨l _ _ h.1, h.2⟩
theorem LocD.sub {G H : Hp} {a : Addr} {o : HO} {F1 F : List Addr} {own : Bool} (h : LocD G H a o F1 F own) : ∀ b ∈ F1, b ∈ F := by
  cases own with
  | true => intro b hb; rw [h.2]; exact List.mem_cons_of_mem _ hb
  | false => intro b hb; rw [h.2.1] at hb; cases hb

mutual
theorem Rep.mono {G H G' H' : Hp} (l : Le G G') : ∀ (d : D) (o : Option V) (F : List Addr), Rep G H d o F → (∀ a ∈ F, H' a = H a) → Rep G' H' d o F
  | .jnk, _, F, h, _ => by unfold Rep at h ⊢; exact h
  | .atm v, o, F, h, _ => by unfold Rep at h ⊢; exact h
  | .lst own xs, o, F, h, k => by
    unfold Rep at h ⊢
    obtain ⟨a, vs, F1, e, r, lo⟩ := h
    exact ⟨a, vs, F1, e, Reps.mono l xs vs F1 r fun b hb => k b (lo.sub b hb), lo.mono l k⟩
  | .tup xs, o, F, h, k => by
    unfold Rep at h ⊢
    obtain ⟨a, vs, e, r, lo⟩ := h
    exact ⟨a, vs, e, Reps.mono l xs vs F r k, l _ _ lo⟩
  | .ins own c ns xs, o, F, h, k => by
    unfold Rep at h ⊢
    obtain ⟨a, dx, vs, F1, e, r, n, lo⟩ := h
    exact ⟨a, dx, vs, F1, e, Reps.mono l xs vs F1 r fun b hb => k b (lo.sub b hb), n, lo.mono l k⟩
  | .xdt ns xs, o, F, h, k => by
    unfold Rep at h ⊢
    obtain ⟨a, vs, e, r, n, lo⟩ := h
    exact ⟨a, vs, e, Reps.mono l xs vs F r k, n, l _ _ lo⟩
  | .scr xs, o, F, h, k => by
    unfold Rep at h ⊢
    obtain ⟨a, e, r, f⟩ := h
    exact ⟨a, e, Rd.le r l, f⟩
  | .hol v, o, F, h, k => by unfold Rep at h ⊢; exact h
  | .exo a da c ns xs, o, F, h, k => by
    unfold Rep at h ⊢
    obtain ⟨vs, e, r, n, lo⟩ := h
    exact ⟨vs, e, Reps.mono l xs vs F r k, n, l _ _ lo⟩
  | .cls v, o, F, h, k => by unfold Rep at h ⊢; exact h
  | .dct own ks xs, o, F, h, k => by
    unfold Rep at h ⊢
    obtain ⟨a, vs, F1, e, r, n, lo⟩ := h
    exact ⟨a, vs, F1, e, Reps.mono l xs vs F1 r fun b hb => k b (lo.sub b hb), n, lo.mono l k⟩
  | .gho S, o, F, h, k => by
    unfold Rep at h ⊢
    exact ⟨fun a o e => l a o (h.1 a o e), h.2⟩
theorem Reps.mono {G H G' H' : Hp} (l : Le G G') : ∀ (ds : List D) (vs : List V) (F : List Addr), Reps G H ds vs F → (∀ a ∈ F, H' a = H a) → Reps G' H' ds vs F
  | [], vs, F, h, _ => by unfold Reps at h ⊢; exact h
  | d :: ds, vs, F, h, k => by
    unfold Reps at h ⊢
    obtain ⟨v, vr, F1, F2, e, ef, r1, r2⟩ := h
    subst ef
    exact ⟨v, vr, F1, F2, e, rfl, Rep.mono l d _ F1 r1 fun a ha => k a (List.mem_append_left _ ha), Reps.mono l ds vr F2 r2 fun a ha => k a (List.mem_append_right _ ha)⟩
end
theorem RepL.mono {G H G' H' : Hp} (l : Le G G') : ∀ (L : List Ent) (F : List Addr), RepL G H L F → (∀ a ∈ F, H' a = H a) → RepL G' H' L F
  | [], F, h, _ => h
  | (d, o) :: L, F, h, k => by
    obtain ⟨F1, F2, ef, r1, r2⟩ := h
    subst ef
    exact ⟨F1, F2, rfl, Rep.mono l d _ F1 r1 fun a ha => k a (List.mem_append_left _ ha), RepL.mono l L F2 r2 fun a ha => k a (List.mem_append_right _ ha)⟩
theorem RepL.append {G H : Hp} : ∀ {L M : List Ent} {F : List Addr}, RepL G H (L ++ M) F ↔ ∃ F1 F2, F = F1 ++ F2 ∧ RepL G H L F1 ∧ RepL G H M F2
  | [], M, F => ⟨fun h => ⟨[], F, rfl, rfl, h⟩, fun ⟨F1, F2, e, h1, h2⟩ => by
      have : F1 = [] := h1
      subst this; subst e; exact h2⟩
  | (d, o) :: L, M, F => by
    constructor
    · rintro ⟨F1, F2, e, r, h⟩
      obtain ⟨F3, F4, e', h3, h4⟩ := RepL.append.mp h
      subst e'; subst e
      exact ⟨F1 ++ F3, F4, by simp, ⟨F1, F3, rfl, r, h3⟩, h4⟩
    · rintro ⟨F1, F2, e, ⟨F3, F4, e', r, h3⟩, h2⟩
      subst e'; subst e
      exact ⟨F3, F4 ++ F2, by simp, r, RepL.append.mpr ⟨F4, F2, rfl, h3, h2⟩⟩
theorem RepL.perm {G H : Hp} {L M : List Ent} (p : L.Perm M) : ∀ {F : List Addr}, RepL G H L F → ∃ F', F.Perm F' ∧ RepL G H M F' := by
  induction p with
  | nil => exact fun h => ⟨_, .refl _, h⟩
  | cons x p ih =>
    rintro F ⟨F1, F2, e, r, h⟩
    obtain ⟨F', q, h'⟩ := ih h
    subst e
    exact ⟨F1 ++ F', q.append_left _, F1, F', rfl, r, h'⟩
  | swap x y l =>
    rintro F ⟨F1, F2, e, r, F3, F4, e', r', h⟩
    subst e'; subst e
    refine ⟨F3 ++ (F1 ++ F4), ?_, F3, F1 ++ F4, rfl, r', F1, F4, rfl, r, h⟩
    rw [← List.append_assoc, ← List.append_assoc]
    exact List.perm_append_comm.append_right _
  | trans p q ih1 ih2 =>
    intro F h
    obtain ⟨F1, p1, h1⟩ := ih1 h
    obtain ⟨F2, p2, h2⟩ := ih2 h1
    exact ⟨F2, p1.trans p2, h2⟩
theorem RepL.of_reps {G H : Hp} : ∀ {ds : List D} {vs : List V} {F : List Addr}, Reps G H ds vs F → RepL G H (ds.zip (vs.map some)) F ∧ ds.length = vs.length
  | [], vs, F, h => by
    unfold Reps at h
    obtain ⟨e, e'⟩ := h
    subst e; subst e'
    exact ⟨rfl, rfl⟩
  | d :: ds, vs, F, h => by
    unfold Reps at h
    obtain ⟨v, vr, F1, F2, e, ef, r1, r2⟩ := h
    subst e; subst ef
    obtain ⟨a, b⟩ := RepL.of_reps r2
    exact ⟨⟨F1, F2, rfl, r1, a⟩, by simp [b]⟩
theorem Reps.of_repl {G H : Hp} : ∀ {ds : List D} {vs : List V} {F : List Addr}, RepL G H (ds.zip (vs.map some)) F → ds.length = vs.length → Reps G H ds vs F
  | [], vs, F, h, e => by
    unfold Reps
    cases vs with
    | nil => exact ⟨rfl, h⟩
    | cons v vs => cases e
  | d :: ds, vs, F, h, e => by
    unfold Reps
    cases vs with
    | nil => cases e
    | cons v vs =>
      obtain ⟨F1, F2, ef, r, h⟩ := h
      exact ⟨v, vs, F1, F2, rfl, ef, r, Reps.of_repl h (by simpa using e)⟩

/-! ### states -/
theorem SI.perm {H : Hp} {L M : List Ent} (h : SI H L) (p : L.Perm M) : SI H M := by
  obtain ⟨G, F, r, nd, gn, l⟩ := h
  obtain ⟨F', q, r'⟩ := r.perm p
  exact ⟨G, F', r', q.nodup_iff.mp nd, fun a ha => gn a (q.mem_iff.mpr ha), l⟩
theorem SI.drop {H : Hp} {x : Ent} {L : List Ent} (h : SI H (x :: L)) : SI H L := by
  obtain ⟨G, F, ⟨F1, F2, e, _, r⟩, nd, gn, l⟩ := h
  subst e
  exact ⟨G, F2, r, (List.nodup_append.mp nd).2.1, fun a ha => gn a (List.mem_append_right _ ha), l⟩
theorem SI.drops {H : Hp} {L : List Ent} : ∀ {M : List Ent}, SI H (M ++ L) → SI H L
  | [], h => h
  | _ :: _, h => SI.drops (SI.drop h)
theorem SI.takes {H : Hp} {L M : List Ent} (h : SI H (M ++ L)) : SI H M := (h.perm List.perm_append_comm).drops
theorem SI.atm {H : Hp} {v : V} {L : List Ent} (h : SI H L) (n : NR v) : SI H ((.atm v, some v) :: L) := by
  obtain ⟨G, F, r, nd, gn, l⟩ := h
  exact ⟨G, F, ⟨[], F, rfl, by unfold Rep; exact ⟨rfl, n, rfl⟩, r⟩, nd, gn, l⟩
theorem SI.jnk {H : Hp} {o : Option V} {L : List Ent} (h : SI H L) : SI H ((.jnk, o) :: L) := by
  obtain ⟨G, F, r, nd, gn, l⟩ := h
  exact ⟨G, F, ⟨[], F, rfl, by unfold Rep; exact rfl, r⟩, nd, gn, l⟩
mutual
theorem Rep.dom {G H : Hp} : ∀ (d : D) (o : Option V) (F : List Addr), Rep G H d o F → ∀ a ∈ F, H a ≠ none
  | .jnk, _, F, h, a, ha => by unfold Rep at h; rw [h] at ha; cases ha
  | .atm v, o, F, h, a, ha => by unfold Rep at h; rw [h.2.2] at ha; cases ha
  | .lst own xs, o, F, h, a, ha => by
    unfold Rep at h
    obtain ⟨b, vs, F1, e, r, lo⟩ := h
    cases own with
    | true =>
      rw [lo.2] at ha
      rcases List.mem_cons.mp ha with rfl | ha
      · rw [lo.1]; exact fun z => by cases z
      · exact Reps.dom xs _ _ r a ha
    | false => rw [lo.2.2] at ha; cases ha
  | .tup xs, o, F, h, a, ha => by
    unfold Rep at h
    obtain ⟨b, vs, e, r, lo⟩ := h
    exact Reps.dom xs _ _ r a ha
  | .ins own c ns xs, o, F, h, a, ha => by
    unfold Rep at h
    obtain ⟨b, dx, vs, F1, e, r, n, lo⟩ := h
    cases own with
    | true =>
      rw [lo.2] at ha
      rcases List.mem_cons.mp ha with rfl | ha
      · rw [lo.1]; exact fun z => by cases z
      · exact Reps.dom xs _ _ r a ha
    | false => rw [lo.2.2] at ha; cases ha
  | .xdt ns xs, o, F, h, a, ha => by
    unfold Rep at h
    obtain ⟨b, vs, e, r, n, lo⟩ := h
    exact Reps.dom xs _ _ r a ha
  | .scr xs, o, F, h, a, ha => by
    unfold Rep at h
    obtain ⟨b, e, r, f⟩ := h
    rw [f] at ha; cases ha
  | .hol v, o, F, h, a, ha => by unfold Rep at h; rw [h.2] at ha; cases ha
  | .exo a da c ns xs, o, F, h, b, hb => by
    unfold Rep at h
    obtain ⟨vs, e, r, n, lo⟩ := h
    exact Reps.dom xs _ _ r b hb
  | .cls v, o, F, h, a, ha => by unfold Rep at h; rw [h.2] at ha; cases ha
  | .dct own ks xs, o, F, h, a, ha => by
    unfold Rep at h
    obtain ⟨b, vs, F1, e, r, n, lo⟩ := h
    cases own with
    | true =>
      rw [lo.2] at ha
      rcases List.mem_cons.mp ha with rfl | ha
      · rw [lo.1]; exact fun z => by cases z
      · exact Reps.dom xs _ _ r a ha
    | false => rw [lo.2.2] at ha; cases ha
  | .gho S, o, F, h, a, ha => by unfold Rep at h; rw [h.2] at ha; cases ha
theorem Reps.dom {G H : Hp} : ∀ (ds : List D) (vs : List V) (F : List Addr), Reps G H ds vs F → ∀ a ∈ F, H a ≠ none
  | [], vs, F, h, a, ha => by unfold Reps at h; rw [h.2] at ha; cases ha
  | d :: ds, vs, F, h, a, ha => by
    unfold Reps at h
    obtain ⟨v, vr, F1, F2, e, ef, r1, r2⟩ := h
    subst ef
    rcases List.mem_append.mp ha with ha | ha
    · exact Rep.dom d _ _ r1 a ha
    · exact Reps.dom ds _ _ r2 a ha
end
theorem RepL.dom {G H : Hp} : ∀ (L : List Ent) (F : List Addr), RepL G H L F → ∀ a ∈ F, H a ≠ none
  | [], F, h, a, ha => by rw [show F = [] from h] at ha; cases ha
  | x :: L, F, h, a, ha => by
    obtain ⟨F1, F2, e, r1, r2⟩ := h
    subst e
    rcases List.mem_append.mp ha with ha | ha
    · exact Rep.dom _ _ _ r1 a ha
    · exact RepL.dom L _ r2 a ha
/-- the heap grows by a thing that is not tracked -/
theorem SI.grow {H H' : Hp} {L : List Ent} (h : SI H L) (k : Le H H') : SI H' L := by
  obtain ⟨G, F, r, nd, gn, l⟩ := h
  refine ⟨G, F, RepL.mono (fun _ _ z => z) L F r fun a ha => ?_, nd, gn, fun a o e => k a o (l a o e)⟩
  cases e : H a with
  | none => exact absurd e (RepL.dom L F r a ha)
  | some o => exact k a o e
theorem le_upd {H : Hp} {p : Addr} {o : HO} (h : H p = none) : Le H (upd H p o) := fun a u e => by
  rw [upd_ne (ne_of_none e h)]; exact e
end VS
set_option Elab.async false
set_option linter.all false
set_option maxRecDepth 100000
namespace VS
open PySem L2

/-! ### frozen data -/
mutual
def fz : D → D
  | .jnk => .jnk
  | .atm v => .atm v
  | .lst _ xs => .lst false (fzs xs)
  | .tup xs => .tup (fzs xs)
  | .ins _ c ns xs => .ins false c ns (fzs xs)
  | .xdt ns xs => .xdt ns (fzs xs)
  | .scr xs => .scr xs
  | .hol _ => .jnk
  | .exo a da c ns xs => .exo a da c ns (fzs xs)
  | .cls c => .cls c
  | .dct _ ks xs => .dct false ks (fzs xs)
  | .gho S => .gho S
def fzs : List D → List D
  | [] => []
  | d :: ds => fz d :: fzs ds
end
mutual
def fzn : D → Bool
  | .jnk => true
  | .atm _ => true
  | .lst own xs => !own && fzns xs
  | .tup xs => fzns xs
  | .ins own _ _ xs => !own && fzns xs
  | .xdt _ xs => fzns xs
  | .scr _ => true
  | .hol _ => false
  | .exo _ _ _ _ xs => fzns xs
  | .cls _ => true
  | .dct own _ xs => !own && fzns xs
  | .gho _ => true
def fzns : List D → Bool
  | [] => true
  | d :: ds => fzn d && fzns ds
end
theorem fzs_length : ∀ ds, (fzs ds).length = ds.length
  | [] => rfl
  | d :: ds => by simp [fzs, fzs_length ds]
mutual
theorem fzn_fz : ∀ d, fzn (fz d) = true
  | .jnk => rfl
  | .atm _ => rfl
  | .lst _ xs => by simp [fz, fzn, fzns_fzs xs]
  | .tup xs => by simp [fz, fzn, fzns_fzs xs]
  | .ins _ c ns xs => by simp [fz, fzn, fzns_fzs xs]
  | .xdt ns xs => by simp [fz, fzn, fzns_fzs xs]
  | .scr _ => rfl
  | .hol _ => rfl
  | .exo a da c ns xs => by simp [fz, fzn, fzns_fzs xs]
  | .cls _ => rfl
  | .dct _ ks xs => by simp [fz, fzn, fzns_fzs xs]
  | .gho _ => rfl
theorem fzns_fzs : ∀ ds, fzns (fzs ds) = true
  | [] => rfl
  | d :: ds => by simp [fzs, fzns, fzn_fz d, fzns_fzs ds]
end
mutual
theorem fz_id : ∀ d, fzn d = true → fz d = d
  | .jnk, _ => rfl
  | .atm _, _ => rfl
  | .lst own xs, h => by
    simp [fzn] at h
    simp [fz, fzs_id xs h.2, h.1]
  | .tup xs, h => by
    simp [fzn] at h
    simp [fz, fzs_id xs h]
  | .ins own c ns xs, h => by
    simp [fzn] at h
    simp [fz, fzs_id xs h.2, h.1]
  | .xdt ns xs, h => by
    simp [fzn] at h
    simp [fz, fzs_id xs h]
  | .scr xs, h => rfl
  | .hol v, h => by simp [fzn] at h
  | .exo a da c ns xs, h => by
    simp [fzn] at h
    simp [fz, fzs_id xs h]
  | .cls c, h => rfl
  | .dct own ks xs, h => by
    simp [fzn] at h
    simp [fz, fzs_id xs h.2, h.1]
  | .gho S, h => rfl
theorem fzs_id : ∀ ds, fzns ds = true → fzs ds = ds
  | [], _ => rfl
  | d :: ds, h => by
    simp [fzns] at h
    simp [fzs, fz_id d h.1, fzs_id ds h.2]
end
mutual
theorem Rep.fz {G H G' : Hp} (l : Le G G') : ∀ (d : D) (o : Option V) (F : List Addr), Rep G H d o F → (∀ a ∈ F, G' a = H a) → Rep G' H (fz d) o []
  | .jnk, _, F, h, _ => by unfold Rep VS.fz; rfl
  | .atm v, o, F, h, _ => by unfold VS.fz; unfold Rep at h ⊢; exact ⟨h.1, h.2.1, rfl⟩
  | .lst own xs, o, F, h, k => by
    unfold VS.fz; unfold Rep at h ⊢
    obtain ⟨a, vs, F1, e, r, lo⟩ := h
    refine ⟨a, vs, [], e, Reps.fz l xs vs F1 r fun b hb => k b (lo.sub b hb), ?_, rfl, rfl⟩
    cases own with
    | true => exact (by rw [k a (by rw [lo.2]; exact List.mem_cons_self)]; exact lo.1)
    | false => exact l _ _ lo.1
  | .tup xs, o, F, h, k => by
    unfold VS.fz; unfold Rep at h ⊢
    obtain ⟨a, vs, e, r, lo⟩ := h
    exact ⟨a, vs, e, Reps.fz l xs vs F r k, l _ _ lo⟩
  | .ins own c ns xs, o, F, h, k => by
    unfold VS.fz; unfold Rep at h ⊢
    obtain ⟨a, dx, vs, F1, e, r, n, lo⟩ := h
    refine ⟨a, dx, vs, [], e, Reps.fz l xs vs F1 r fun b hb => k b (lo.sub b hb), by rw [fzs_length]; exact n, ?_, rfl, rfl⟩
    cases own with
    | true => exact (by rw [k a (by rw [lo.2]; exact List.mem_cons_self)]; exact lo.1)
    | false => exact l _ _ lo.1
  | .xdt ns xs, o, F, h, k => by
    unfold VS.fz; unfold Rep at h ⊢
    obtain ⟨a, vs, e, r, n, lo⟩ := h
    exact ⟨a, vs, e, Reps.fz l xs vs F r k, by rw [fzs_length]; exact n, l _ _ lo⟩
  | .scr xs, o, F, h, k => by
    unfold VS.fz; unfold Rep at h ⊢
    obtain ⟨a, e, r, f⟩ := h
    exact ⟨a, e, Rd.le r l, rfl⟩
  | .hol v, o, F, h, k => by
    unfold VS.fz; unfold Rep; rfl
  | .exo a da c ns xs, o, F, h, k => by
    unfold VS.fz; unfold Rep at h ⊢
    obtain ⟨vs, e, r, n, lo⟩ := h
    exact ⟨vs, e, Reps.fz l xs vs F r k, by rw [fzs_length]; exact n, l _ _ lo⟩
  | .cls v, o, F, h, k => by unfold VS.fz; unfold Rep at h ⊢; exact ⟨h.1, rfl⟩
  | .dct own ks xs, o, F, h, k => by
    unfold VS.fz; unfold Rep at h ⊢
    obtain ⟨a, vs, F1, e, r, n, lo⟩ := h
    refine ⟨a, vs, [], e, Reps.fz l xs vs F1 r fun b hb => k b (lo.sub b hb), by rw [fzs_length]; exact n, ?_, rfl, rfl⟩
    cases own with
    | true => exact (by rw [k a (by rw [lo.2]; exact List.mem_cons_self)]; exact lo.1)
    | false => exact l _ _ lo.1
  | .gho S, o, F, h, k => by unfold VS.fz; unfold Rep at h ⊢; exact ⟨fun a o e => l a o (h.1 a o e), rfl⟩
theorem Reps.fz {G H G' : Hp} (l : Le G G') : ∀ (ds : List D) (vs : List V) (F : List Addr), Reps G H ds vs F → (∀ a ∈ F, G' a = H a) → Reps G' H (fzs ds) vs []
  | [], vs, F, h, _ => by unfold fzs; unfold Reps at h ⊢; exact ⟨h.1, rfl⟩
  | d :: ds, vs, F, h, k => by
    unfold fzs; unfold Reps at h ⊢
    obtain ⟨v, vr, F1, F2, e, ef, r1, r2⟩ := h
    subst ef
    exact ⟨v, vr, [], [], e, rfl, Rep.fz l d _ F1 r1 fun a ha => k a (List.mem_append_left _ ha), Reps.fz l ds vr F2 r2 fun a ha => k a (List.mem_append_right _ ha)⟩
end
mutual
theorem Rep.nil {G H : Hp} : ∀ (d : D) (o : Option V) (F : List Addr), Rep G H d o F → fzn d = true → F = []
  | .jnk, _, F, h, _ => by unfold Rep at h; exact h
  | .atm v, o, F, h, _ => by unfold Rep at h; exact h.2.2
  | .lst own xs, o, F, h, k => by
    unfold Rep at h
    obtain ⟨a, vs, F1, e, r, lo⟩ := h
    simp [fzn] at k
    rw [k.1] at lo
    exact lo.2.2
  | .tup xs, o, F, h, k => by
    unfold Rep at h
    obtain ⟨a, vs, e, r, lo⟩ := h
    exact Reps.nil xs vs F r k
  | .ins own c ns xs, o, F, h, k => by
    unfold Rep at h
    obtain ⟨a, dx, vs, F1, e, r, n, lo⟩ := h
    simp [fzn] at k
    rw [k.1] at lo
    exact lo.2.2
  | .xdt ns xs, o, F, h, k => by
    unfold Rep at h
    obtain ⟨a, vs, e, r, n, lo⟩ := h
    simp [fzn] at k
    exact Reps.nil xs vs F r k
  | .scr xs, o, F, h, k => by
    unfold Rep at h
    obtain ⟨a, e, r, f⟩ := h
    exact f
  | .hol v, o, F, h, k => by simp [fzn] at k
  | .exo a da c ns xs, o, F, h, k => by
    unfold Rep at h
    obtain ⟨vs, e, r, n, lo⟩ := h
    simp [fzn] at k
    exact Reps.nil xs vs F r k
  | .cls v, o, F, h, k => by unfold Rep at h; exact h.2
  | .dct own ks xs, o, F, h, k => by
    unfold Rep at h
    obtain ⟨a, vs, F1, e, r, n, lo⟩ := h
    simp [fzn] at k
    rw [k.1] at lo
    exact lo.2.2
  | .gho S, o, F, h, k => by unfold Rep at h; exact h.2
theorem Reps.nil {G H : Hp} : ∀ (ds : List D) (vs : List V) (F : List Addr), Reps G H ds vs F → fzns ds = true → F = []
  | [], vs, F, h, _ => by unfold Reps at h; exact h.2
  | d :: ds, vs, F, h, k => by
    unfold Reps at h
    obtain ⟨v, vr, F1, F2, e, ef, r1, r2⟩ := h
    simp [fzns] at k
    rw [ef, Rep.nil d _ F1 r1 k.1, Reps.nil ds vr F2 r2 k.2]
    rfl
end
theorem SI.fz {H : Hp} {d : D} {o : Option V} {L : List Ent} (h : SI H ((d, o) :: L)) : SI H ((VS.fz d, o) :: L) := by
  obtain ⟨G, F, ⟨F1, F2, e, r1, r2⟩, nd, gn, l⟩ := h
  subst e
  have nd' := List.nodup_append.mp nd
  have le : Le G (fun a => if a ∈ F1 then H a else G a) := fun a o e => by
    show (if a ∈ F1 then H a else G a) = some o
    by_cases c : a ∈ F1
    · rw [if_pos c]; exact l a o e
    · rw [if_neg c]; exact e
  refine ⟨fun a => if a ∈ F1 then H a else G a, F2, ⟨[], F2, rfl, ?_, ?_⟩, nd'.2.1, fun a ha => ?_, fun a o e => ?_⟩
  · exact Rep.fz le d o F1 r1 fun a ha => if_pos ha
  · exact RepL.mono le L F2 r2 fun _ _ => rfl
  · have c : a ∉ F1 := fun z => nd'.2.2 a z a ha rfl
    show (if a ∈ F1 then H a else G a) = none
    rw [if_neg c]
    exact gn a (List.mem_append_right _ ha)
  · have e : (if a ∈ F1 then H a else G a) = some o := e
    by_cases c : a ∈ F1
    · rw [if_pos c] at e; exact e
    · rw [if_neg c] at e; exact l a o e
theorem SI.dup {H : Hp} {d : D} {o : Option V} {L : List Ent} (h : SI H ((d, o) :: L)) (f : fzn d = true) : SI H ((d, o) :: (d, o) :: L) := by
  obtain ⟨G, F, ⟨F1, F2, e, r1, r2⟩, nd, gn, l⟩ := h
  have := Rep.nil d o F1 r1 f
  subst this
  exact ⟨G, F, ⟨[], F, rfl, r1, [], F2, e, r1, r2⟩, nd, gn, l⟩

/-! ### new things -/
theorem SI.newL {H : Hp} {ds : List D} {vs : List V} {L : List Ent} {p : Addr} (h : SI H (ds.zip (vs.map some) ++ L)) (e : ds.length = vs.length) (hp : H p = none) :
    SI (upd H p (.lst vs)) ((.lst true ds, some (.ref p)) :: L) := by
  obtain ⟨G, F, r, nd, gn, l⟩ := h
  have dm := RepL.dom _ _ r
  have r' : RepL G (upd H p (.lst vs)) _ F := RepL.mono (fun _ _ z => z) _ F r fun a ha => upd_ne fun z => dm a ha (by rw [z]; exact hp)
  obtain ⟨F1, F2, ef, r1, r2⟩ := RepL.append.mp r'
  subst ef
  refine ⟨G, p :: (F1 ++ F2), ⟨p :: F1, F2, rfl, ?_, r2⟩, ?_, ?_, fun a o e => le_upd hp a o (l a o e)⟩
  · unfold Rep
    exact ⟨p, vs, F1, rfl, Reps.of_repl r1 e, upd_same, rfl⟩
  · exact List.nodup_cons.mpr ⟨fun z => dm p z hp, nd⟩
  · intro a ha
    rcases List.mem_cons.mp ha with rfl | ha
    · cases e' : G a with
      | none => rfl
      | some o => have := l a o e'; rw [hp] at this; cases this
    · exact gn a ha
theorem SI.newT {H : Hp} {ds : List D} {vs : List V} {L : List Ent} {p : Addr} (h : SI H (ds.zip (vs.map some) ++ L)) (e : ds.length = vs.length) (hp : H p = none) :
    SI (upd H p (.tup vs)) ((.tup ds, some (.ref p)) :: L) := by
  obtain ⟨G, F, r, nd, gn, l⟩ := h
  have dm := RepL.dom _ _ r
  have gp : G p = none := by
    cases e' : G p with
    | none => rfl
    | some o => have := l p o e'; rw [hp] at this; cases this
  have r' : RepL (upd G p (.tup vs)) (upd H p (.tup vs)) _ F := RepL.mono (le_upd gp) _ F r fun a ha => upd_ne fun z => dm a ha (by rw [z]; exact hp)
  obtain ⟨F1, F2, ef, r1, r2⟩ := RepL.append.mp r'
  subst ef
  refine ⟨upd G p (.tup vs), F1 ++ F2, ⟨F1, F2, rfl, ?_, r2⟩, nd, fun a ha => ?_, fun a o e => ?_⟩
  · unfold Rep
    exact ⟨p, vs, rfl, Reps.of_repl r1 e, upd_same⟩
  · have c : a ≠ p := fun z => dm a ha (by rw [z]; exact hp)
    rw [upd_ne c]; exact gn a ha
  · by_cases c : a = p
    · subst c; rw [upd_same] at e ⊢; exact e
    · rw [upd_ne c] at e ⊢; exact l a o e
/-- an owned list is written -/
theorem SI.write {H : Hp} {ds ds' : List D} {vs vs' : List V} {M M' R : List Ent} {a : Addr} (h : SI H ((.lst true ds, some (.ref a)) :: M)) (ha : H a = some (.lst vs))
    (e : ds'.length = vs'.length) (p : (ds.zip (vs.map some) ++ M).Perm (ds'.zip (vs'.map some) ++ M' ++ R)) :
    SI (upd H a (.lst vs')) ((.lst true ds', some (.ref a)) :: M') := by
  obtain ⟨G, F, ⟨F1, F2, ef, r1, r2⟩, nd, gn, l⟩ := h
  unfold Rep at r1
  obtain ⟨b, ws, F3, eb, r3, hb, ef1⟩ := r1
  cases eb
  rw [ha] at hb
  cases hb
  obtain ⟨r4, el⟩ := RepL.of_reps r3
  subst ef1
  subst ef
  have nd1 : (a :: (F3 ++ F2)).Nodup := nd
  have nd2 := List.nodup_cons.mp nd1
  have q := RepL.append.mpr ⟨F3, F2, rfl, r4, r2⟩
  obtain ⟨F', pf, q'⟩ := q.perm p
  obtain ⟨F5, F6, e6, r5, _⟩ := RepL.append.mp q'
  subst e6
  have s5 : ∀ x ∈ F5, x ∈ F3 ++ F2 := fun x hx => pf.mem_iff.mpr (List.mem_append_left _ hx)
  have nd5 : F5.Nodup := (List.nodup_append.mp (pf.nodup_iff.mp nd2.2)).1
  have na : a ∉ F5 := fun z => nd2.1 (s5 a z)
  have r7 : RepL G (upd H a (.lst vs')) _ F5 := RepL.mono (fun _ _ z => z) _ _ r5 fun x hx => upd_ne fun z => na (by rw [← z]; exact hx)
  obtain ⟨F7, F8, e8, r8, r9⟩ := RepL.append.mp r7
  subst e8
  refine ⟨G, a :: (F7 ++ F8), ⟨a :: F7, F8, rfl, ?_, r9⟩, List.nodup_cons.mpr ⟨na, nd5⟩, ?_, fun x o ex => ?_⟩
  · unfold Rep
    exact ⟨a, vs', F7, rfl, Reps.of_repl r8 e, upd_same, rfl⟩
  · intro x hx
    rcases List.mem_cons.mp hx with rfl | hx
    · exact gn _ (by show _ ∈ _ :: (F3 ++ F2); exact List.mem_cons_self)
    · exact gn x (by show x ∈ a :: (F3 ++ F2); exact List.mem_cons_of_mem _ (s5 x hx))
  · have c : x ≠ a := fun z => by
      have := gn a (by show a ∈ a :: (F3 ++ F2); exact List.mem_cons_self)
      rw [z, this] at ex; cases ex
    rw [upd_ne c]; exact l x o ex

/-! ### reading -/
def Pk (H : Hp) (d : D) (v : V) : Prop := ∃ G F, Rep G H d (some v) F ∧ Le G H
theorem SI.pk {H : Hp} {d : D} {v : V} {L : List Ent} (h : SI H ((d, some v) :: L)) : Pk H d v := by
  obtain ⟨G, F, ⟨F1, F2, e, r1, r2⟩, nd, gn, l⟩ := h
  exact ⟨G, F1, r1, l⟩
theorem SI.pkm {H : Hp} {d : D} {v : V} {L : List Ent} (h : SI H L) (m : (d, some v) ∈ L) : Pk H d v := by
  obtain ⟨l1, l2, e⟩ := List.append_of_mem m
  subst e
  exact (SI.perm h List.perm_middle).pk
theorem Pk.atm {H : Hp} {v w : V} (h : Pk H (.atm v) w) : w = v := by
  obtain ⟨G, F, r, l⟩ := h
  unfold Rep at r
  exact Option.some.inj r.1
theorem Reps.get {G H : Hp} : ∀ {ds : List D} {vs : List V} {F : List Addr}, Reps G H ds vs F → ∀ (i : Nat) (d : D), ds[i]? = some d → ∃ v F', vs[i]? = some v ∧ Rep G H d (some v) F'
  | [], vs, F, h, i, d, e => by cases i <;> cases e
  | x :: ds, vs, F, h, 0, d, e => by
    unfold Reps at h
    obtain ⟨v, vr, F1, F2, e1, ef, r1, r2⟩ := h
    cases e
    subst e1
    exact ⟨v, F1, rfl, r1⟩
  | x :: ds, vs, F, h, i + 1, d, e => by
    unfold Reps at h
    obtain ⟨v, vr, F1, F2, e1, ef, r1, r2⟩ := h
    subst e1
    obtain ⟨w, F', a, b⟩ := Reps.get r2 i d e
    exact ⟨w, F', a, b⟩
theorem LocD.rd {G H : Hp} {a : Addr} {o : HO} {F1 F : List Addr} {own : Bool} (h : LocD G H a o F1 F own) (l : Le G H) : H a = some o := by
  cases own with
  | true => exact h.1
  | false => exact l _ _ h.1
def PkL (H : Hp) (ds : List D) (vs : List V) : Prop := ds.length = vs.length ∧ ∀ (i : Nat) (d : D), ds[i]? = some d → ∃ v, vs[i]? = some v ∧ Pk H d v
theorem Reps.pkl {G H : Hp} {ds : List D} {vs : List V} {F : List Addr} (h : Reps G H ds vs F) (l : Le G H) : PkL H ds vs :=
  ⟨(RepL.of_reps h).2, fun i d e => by
    obtain ⟨v, F', a, b⟩ := h.get i d e
    exact ⟨v, a, G, F', b, l⟩⟩
theorem Pk.lst {H : Hp} {own : Bool} {ds : List D} {v : V} (h : Pk H (.lst own ds) v) : ∃ a vs, v = .ref a ∧ H a = some (.lst vs) ∧ PkL H ds vs := by
  obtain ⟨G, F, r, l⟩ := h
  unfold Rep at r
  obtain ⟨a, vs, F1, e, r, lo⟩ := r
  exact ⟨a, vs, Option.some.inj e, lo.rd l, r.pkl l⟩
theorem Pk.tup {H : Hp} {ds : List D} {v : V} (h : Pk H (.tup ds) v) : ∃ a vs, v = .ref a ∧ H a = some (.tup vs) ∧ PkL H ds vs := by
  obtain ⟨G, F, r, l⟩ := h
  unfold Rep at r
  obtain ⟨a, vs, e, r, lo⟩ := r
  exact ⟨a, vs, Option.some.inj e, l _ _ lo, r.pkl l⟩
theorem Pk.ins {H : Hp} {own : Bool} {c : Addr} {ns : List Str} {ds : List D} {v : V} (h : Pk H (.ins own c ns ds) v) : ∃ a dx vs, v = .ref a ∧ H a = some (.ins c dx (ns.zip vs)) ∧ PkL H ds vs ∧ ns.length = ds.length := by
  obtain ⟨G, F, r, l⟩ := h
  unfold Rep at r
  obtain ⟨a, dx, vs, F1, e, r, n, lo⟩ := r
  exact ⟨a, dx, vs, Option.some.inj e, lo.rd l, r.pkl l, n⟩
theorem Pk.scr {H : Hp} {xs : List Int} {v : V} (h : Pk H (.scr xs) v) : ∃ a, v = .ref a ∧ Rd H a (.lst (xs.map V.int)) := by
  obtain ⟨G, F, r, l⟩ := h
  unfold Rep at r
  obtain ⟨a, e, r, f⟩ := r
  exact ⟨a, Option.some.inj e, Rd.le r l⟩
theorem Pk.xdt {H : Hp} {ns : List Str} {ds : List D} {v : V} (h : Pk H (.xdt ns ds) v) : ∃ a vs, v = .ref a ∧ H a = some (.xd (ns.zip vs)) ∧ PkL H ds vs ∧ ns.length = ds.length := by
  obtain ⟨G, F, r, l⟩ := h
  unfold Rep at r
  obtain ⟨a, vs, e, r, n, lo⟩ := r
  exact ⟨a, vs, Option.some.inj e, l _ _ lo, r.pkl l, n⟩
theorem rd_lst_inj {H : Hp} {a : Addr} {xs ys : List V} (h : Rd H a (.lst xs)) (k : Rd H a (.lst ys)) : xs = ys := by
  rcases h with h | ⟨o, h⟩ <;> rcases k with k | ⟨o', k⟩ <;> rw [h] at k <;> cases k <;> rfl
theorem rd_tup_inj {H : Hp} {a : Addr} {xs ys : List V} (h : Rd H a (.tup xs)) (k : Rd H a (.tup ys)) : xs = ys := by
  rcases h with h | ⟨o, h⟩ <;> rcases k with k | ⟨o', k⟩ <;> rw [h] at k <;> cases k <;> rfl
theorem rd_ins_inj {H : Hp} {a : Addr} {c c' dx dx' : Addr} {xs ys : List (Str × V)} (h : Rd H a (.ins c dx xs)) (k : Rd H a (.ins c' dx' ys)) : c = c' ∧ dx = dx' ∧ xs = ys := by
  rcases h with h | ⟨o, h⟩ <;> rcases k with k | ⟨o', k⟩ <;> rw [h] at k <;> cases k <;> exact ⟨rfl, rfl, rfl⟩
/-- what may be put out of a thing that stands: a frozen part of it -/
theorem SI.kidL {H : Hp} {own : Bool} {ds : List D} {a : Addr} {vs : List V} {L : List Ent} (h : SI H ((.lst own ds, some (.ref a)) :: L)) (rd : H a = some (.lst vs)) {i : Nat} {d : D} (e : ds[i]? = some d) (f : fzn d = true) :
    ∃ v, vs[i]? = some v ∧ SI H ((d, some v) :: (.lst own ds, some (.ref a)) :: L) := by
  obtain ⟨G, F, ⟨F1, F2, ef, r1, r2⟩, nd, gn, l⟩ := h
  have r1' := r1
  unfold Rep at r1
  obtain ⟨b, ws, F3, eb, r3, lo⟩ := r1
  cases eb
  have := lo.rd l
  rw [rd] at this
  cases this
  obtain ⟨v, F', e1, e2⟩ := r3.get i d e
  have := Rep.nil d _ F' e2 f
  subst this
  exact ⟨v, e1, G, F, ⟨[], F, rfl, e2, F1, F2, ef, r1', r2⟩, nd, gn, l⟩
theorem SI.kidT {H : Hp} {ds : List D} {a : Addr} {vs : List V} {L : List Ent} (h : SI H ((.tup ds, some (.ref a)) :: L)) (rd : H a = some (.tup vs)) {i : Nat} {d : D} (e : ds[i]? = some d) (f : fzn d = true) :
    ∃ v, vs[i]? = some v ∧ SI H ((d, some v) :: (.tup ds, some (.ref a)) :: L) := by
  obtain ⟨G, F, ⟨F1, F2, ef, r1, r2⟩, nd, gn, l⟩ := h
  have r1' := r1
  unfold Rep at r1
  obtain ⟨b, ws, eb, r3, lo⟩ := r1
  cases eb
  have := l _ _ lo
  rw [rd] at this
  cases this
  obtain ⟨v, F', e1, e2⟩ := r3.get i d e
  have := Rep.nil d _ F' e2 f
  subst this
  exact ⟨v, e1, G, F, ⟨[], F, rfl, e2, F1, F2, ef, r1', r2⟩, nd, gn, l⟩
theorem SI.kidI {H : Hp} {own : Bool} {c dx : Addr} {ns : List Str} {ds : List D} {a : Addr} {vs : List V} {L : List Ent} (h : SI H ((.ins own c ns ds, some (.ref a)) :: L)) (rd : H a = some (.ins c dx (ns.zip vs))) (el : ns.length = vs.length)
    {i : Nat} {d : D} (e : ds[i]? = some d) (f : fzn d = true) :
    ∃ v, vs[i]? = some v ∧ SI H ((d, some v) :: (.ins own c ns ds, some (.ref a)) :: L) := by
  obtain ⟨G, F, ⟨F1, F2, ef, r1, r2⟩, nd, gn, l⟩ := h
  have r1' := r1
  unfold Rep at r1
  obtain ⟨b, dx', ws, F3, eb, r3, n, lo⟩ := r1
  cases eb
  obtain ⟨_, _, ez⟩ := rd_ins_inj (.inl rd) (.inl (lo.rd l))
  have hl : ns.length = ws.length := n.trans (RepL.of_reps r3).2
  have : vs = ws := by
    have a1 := congrArg (List.map Prod.snd) ez
    rw [List.map_snd_zip (Nat.le_of_eq el.symm), List.map_snd_zip (Nat.le_of_eq hl.symm)] at a1
    exact a1
  subst this
  obtain ⟨v, F', e1, e2⟩ := r3.get i d e
  have := Rep.nil d _ F' e2 f
  subst this
  exact ⟨v, e1, G, F, ⟨[], F, rfl, e2, F1, F2, ef, r1', r2⟩, nd, gn, l⟩
/-- all of a thing's parts, frozen, told again -/
theorem SI.kidsL {H : Hp} {own : Bool} {ds : List D} {v : V} {L : List Ent} (h : SI H L) (m : (.lst own ds, some v) ∈ L) (f : fzns ds = true) :
    ∃ a vs, v = .ref a ∧ H a = some (.lst vs) ∧ ds.length = vs.length ∧ SI H (ds.zip (vs.map some) ++ L) := by
  obtain ⟨l1, l2, e⟩ := List.append_of_mem m
  subst e
  obtain ⟨G, F, ⟨F1, F2, ef, r1, r2⟩, nd, gn, l⟩ := SI.perm h List.perm_middle
  have r1' := r1
  unfold Rep at r1
  obtain ⟨b, ws, F3, eb, r3, lo⟩ := r1
  have n3 := Reps.nil ds ws F3 r3 f
  subst n3
  refine ⟨b, ws, Option.some.inj eb, lo.rd l, (RepL.of_reps r3).2, SI.perm (L := ds.zip (ws.map some) ++ ((.lst own ds, some v) :: (l1 ++ l2))) ?_ (List.perm_middle.symm.append_left _)⟩
  exact ⟨G, F, RepL.append.mpr ⟨[], F, rfl, (RepL.of_reps r3).1, F1, F2, ef, r1', r2⟩, nd, gn, l⟩
theorem SI.kidsT {H : Hp} {ds : List D} {v : V} {L : List Ent} (h : SI H L) (m : (.tup ds, some v) ∈ L) (f : fzns ds = true) :
    ∃ a vs, v = .ref a ∧ H a = some (.tup vs) ∧ ds.length = vs.length ∧ SI H (ds.zip (vs.map some) ++ L) := by
  obtain ⟨l1, l2, e⟩ := List.append_of_mem m
  subst e
  obtain ⟨G, F, ⟨F1, F2, ef, r1, r2⟩, nd, gn, l⟩ := SI.perm h List.perm_middle
  have r1' := r1
  unfold Rep at r1
  obtain ⟨b, ws, eb, r3, lo⟩ := r1
  have n3 := Reps.nil ds ws F1 r3 f
  subst n3
  refine ⟨b, ws, Option.some.inj eb, l _ _ lo, (RepL.of_reps r3).2, SI.perm (L := ds.zip (ws.map some) ++ ((.tup ds, some v) :: (l1 ++ l2))) ?_ (List.perm_middle.symm.append_left _)⟩
  exact ⟨G, F, RepL.append.mpr ⟨[], F, rfl, (RepL.of_reps r3).1, [], F2, ef, r1', r2⟩, nd, gn, l⟩
theorem SI.mem {H : Hp} {x : Ent} {L : List Ent} (h : SI H L) (m : x ∈ L) : ∃ L', SI H (x :: L') ∧ L.Perm (x :: L') := by
  obtain ⟨l1, l2, e⟩ := List.append_of_mem m
  subst e
  exact ⟨l1 ++ l2, SI.perm h List.perm_middle, List.perm_middle⟩
end VS
set_option Elab.async false
set_option linter.all false
set_option maxRecDepth 100000
namespace VS
open PySem L2

abbrev EnvD := List D
inductive R where
  | val (d : D)
  | slot (i : Nat)
def R.ent : R → V → List Ent
  | .val d, v => [(d, some v)]
  | .slot _, _ => []
def R.ok (σ : St) : R → V → Prop
  | .val _, _ => True
  | .slot i, v => σ[i]? = some (some v)
def peek (r : R) (e : EnvD) : Option D := match r with
  | .val d => some d
  | .slot i => e[i]?
structure Exn where
  c : Addr
  ns : List Str
  ds : List D
inductive M (α : Type) where
  | no
  | er (x : Exn) (e : EnvD)
  | ok (a : α) (e : EnvD)
def M.bind {α β : Type} (m : M α) (k : α → EnvD → M β) : M β := match m with
  | .no => .no
  | .er x e => .er x e
  | .ok a e => k a e
def lift {α : Type} (o : Option α) (e : EnvD) : M α := match o with
  | some a => .ok a e
  | none => .no
@[simp] theorem bind_ok {α β : Type} (a : α) (e : EnvD) (k : α → EnvD → M β) : (M.ok a e).bind k = k a e := rfl
@[simp] theorem bind_er {α β : Type} (x : Exn) (e : EnvD) (k : α → EnvD → M β) : (M.er x e : M α).bind k = .er x e := rfl
@[simp] theorem bind_no {α β : Type} (k : α → EnvD → M β) : (M.no : M α).bind k = .no := rfl
@[simp] theorem lift_some {α : Type} (a : α) (e : EnvD) : lift (some a) e = .ok a e := rfl
@[simp] theorem lift_none {α : Type} (e : EnvD) : lift (none : Option α) e = .no := rfl

structure Stt (H : Hp) (K : List Ent) (env : EnvD) (σ : St) : Prop where
  len : env.length = σ.length
  si : SI H (K ++ env.zip σ)
def MPost {α : Type} (W : WX) (K : List Ent) (σ : St) (P : α → EnvD → Prop) : M α → Prop
  | .no => False
  | .er x e => ∀ H' da, Stt H' ((.xdt x.ns x.ds, some (.ref da)) :: K) e σ → W (.ref x.c) (some da) σ H'
  | .ok a e => P a e
theorem MPost.mono {α : Type} {W : WX} {K : List Ent} {σ : St} {P P' : α → EnvD → Prop} {m : M α} (h : MPost W K σ P m) (i : ∀ a e, P a e → P' a e) : MPost W K σ P' m := by
  cases m with
  | no => exact h
  | er x e => exact h
  | ok a e => exact i a e h
theorem SI.mid {H : Hp} {A B L : List Ent} (h : SI H (A ++ (B ++ L))) : SI H (A ++ L) := by
  refine SI.drops (M := B) (h.perm ?_)
  rw [← List.append_assoc, ← List.append_assoc]
  exact List.perm_append_comm.append_right _
theorem Stt.mid {H : Hp} {x : Ent} {B K : List Ent} {e : EnvD} {σ : St} (h : Stt H (x :: (B ++ K)) e σ) : Stt H (x :: K) e σ :=
  ⟨h.len, SI.mid (A := [x]) (B := B) (by have := h.si; simpa using this)⟩
theorem Stt.drops {H : Hp} {B K : List Ent} {e : EnvD} {σ : St} (h : Stt H (B ++ K) e σ) : Stt H K e σ :=
  ⟨h.len, SI.drops (M := B) (by have := h.si; rwa [List.append_assoc] at this)⟩
theorem MPost.bind {α β : Type} {W : WX} {K K0 : List Ent} {σ : St} {P : β → EnvD → Prop} {m : M α} {k : α → EnvD → M β} (h : MPost W K σ P (m.bind k)) :
    MPost W (K0 ++ K) σ (fun a e => MPost W K σ P (k a e)) m := by
  cases m with
  | no => exact h
  | er x e => exact fun H' da s => h H' da s.mid
  | ok a e => exact h
theorem MPost.bind0 {α β : Type} {W : WX} {K : List Ent} {σ : St} {P : β → EnvD → Prop} {m : M α} {k : α → EnvD → M β} (h : MPost W K σ P (m.bind k)) :
    MPost W K σ (fun a e => MPost W K σ P (k a e)) m := MPost.bind (K0 := []) h

abbrev Ev := EnvD → M R
abbrev Tv := EnvD → M Bool
abbrev Av := EnvD → M (List R)
def EOk (W : WX) (t : TE) (f : Ev) : Prop := ∀ env σ K H Q, Stt H K env σ → MPost W K σ (fun r e => ∀ v H', Stt H' (r.ent v ++ K) e σ → r.ok σ v → Q v H') (f env) → t σ H Q
def TOk (W : WX) (t : TT) (f : Tv) : Prop := ∀ env σ K H Q, Stt H K env σ → MPost W K σ (fun b e => ∀ H', Stt H' K e σ → Q b H') (f env) → t σ H Q
def ents : List R → List V → List Ent
  | r :: rs, v :: vs => r.ent v ++ ents rs vs
  | _, _ => []
def oks (σ : St) : List R → List V → Prop
  | [], [] => True
  | r :: rs, v :: vs => r.ok σ v ∧ oks σ rs vs
  | _, _ => False
def AOk (W : WX) (t : TA) (f : Av) : Prop := ∀ env σ K H Q, Stt H K env σ → MPost W K σ (fun rs e => ∀ vs H', Stt H' (ents rs vs ++ K) e σ → oks σ rs vs → Q vs H') (f env) → t σ H Q
structure EJ (X : Cx) (W : WX) (e : Expr) (f : Ev) : Prop where
  ex : ∃ t, PE X e t ∧ EOk W t f
structure TJ (X : Cx) (W : WX) (e : Expr) (f : Tv) : Prop where
  ex : ∃ t, PT X e t ∧ TOk W t f
structure WJ (X : Cx) (W : WX) (e : Expr) (f : Tv) : Prop where
  ex : ∃ t, PW X e t ∧ TOk W t f
structure AJ (X : Cx) (W : WX) (es : List Expr) (f : Av) : Prop where
  ex : ∃ t, PA X es t ∧ AOk W t f

/-! ### looking -/
theorem mem_zip {e : EnvD} {σ : St} {i : Nat} {d : D} {v : Option V} (h : e[i]? = some d) (k : σ[i]? = some v) : (d, v) ∈ e.zip σ := by
  apply List.mem_of_getElem? (i := i)
  rw [List.getElem?_zip_eq_some]
  exact ⟨h, k⟩
theorem mem_peek {e : EnvD} {σ : St} {r : R} {d : D} {v : V} {L : List Ent} (o : r.ok σ v) (sub : ∀ p ∈ r.ent v, p ∈ L) (sz : ∀ p ∈ e.zip σ, p ∈ L) (hp : peek r e = some d) : (d, some v) ∈ L := by
  cases r with
  | val x => cases hp; exact sub _ (List.mem_singleton.mpr rfl)
  | slot i => exact sz _ (mem_zip hp o)
def Op2 (r : R2) (g : D → D → Option D) : Prop := ∀ H L x y dx dy z Q, SI H L → (dx, some x) ∈ L → (dy, some y) ∈ L → g dx dy = some z → (∀ u H', SI H' ((z, some u) :: L) → Q u H') → r x y H Q
def Op1 (r : V → Hp → VK → Prop) (g : D → Option D) : Prop := ∀ H L x dx z Q, SI H L → (dx, some x) ∈ L → g dx = some z → (∀ u H', SI H' ((z, some u) :: L) → Q u H') → r x H Q
def Mems (L : List Ent) : List D → List V → Prop
  | [], [] => True
  | d :: ds, v :: vs => (d, some v) ∈ L ∧ Mems L ds vs
  | _, _ => False
def OpN (r : List V → Hp → VK → Prop) (g : List D → Option D) : Prop := ∀ H L xs ds z Q, SI H L → Mems L ds xs → g ds = some z → (∀ u H', SI H' ((z, some u) :: L) → Q u H') → r xs H Q

def isJ : D → Bool
  | .jnk => true
  | .gho _ => true
  | _ => false
theorem rep_some {G H : Hp} {d : D} {o : Option V} {F : List Addr} (h : Rep G H d o F) (j : isJ d = false) : ∃ v, o = some v := by
  cases d with
  | jnk => cases j
  | atm v => unfold Rep at h; exact ⟨v, h.1⟩
  | lst own xs => unfold Rep at h; obtain ⟨a, vs, F1, e, _⟩ := h; exact ⟨_, e⟩
  | tup xs => unfold Rep at h; obtain ⟨a, vs, e, _⟩ := h; exact ⟨_, e⟩
  | ins own c ns xs => unfold Rep at h; obtain ⟨a, dx, vs, F1, e, _⟩ := h; exact ⟨_, e⟩
  | xdt ns xs => unfold Rep at h; obtain ⟨a, vs, e, _⟩ := h; exact ⟨_, e⟩
  | scr xs => unfold Rep at h; obtain ⟨a, e, _⟩ := h; exact ⟨_, e⟩
  | hol v => unfold Rep at h; exact ⟨_, h.1⟩
  | exo a da c ns xs => unfold Rep at h; obtain ⟨vs, e, _⟩ := h; exact ⟨_, e⟩
  | cls c => unfold Rep at h; exact ⟨_, h.1⟩
  | dct own ks xs => unfold Rep at h; obtain ⟨a, vs, F1, e, _⟩ := h; exact ⟨_, e⟩
  | gho S => cases j
theorem SI.isSm {H : Hp} {d : D} {o : Option V} {L : List Ent} (h : SI H L) (m : (d, o) ∈ L) (j : isJ d = false) : ∃ v, o = some v := by
  obtain ⟨l1, l2, e⟩ := List.append_of_mem m
  subst e
  obtain ⟨G, F, ⟨F1, F2, ef, r1, r2⟩, _⟩ := SI.perm h List.perm_middle
  exact rep_some r1 j
theorem slot_some {e : EnvD} {σ : St} {K : List Ent} {H : Hp} {i : Nat} {d : D} (s : Stt H K e σ) (h : e[i]? = some d) (j : isJ d = false) : ∃ v, σ[i]? = some (some v) := by
  obtain ⟨hi, _⟩ := List.getElem?_eq_some_iff.mp h
  have hs : σ[i]? = some (σ[i]'(by rw [← s.len]; exact hi)) := List.getElem?_eq_getElem _
  obtain ⟨v, e1⟩ := s.si.isSm (List.mem_append_right _ (mem_zip h hs)) j
  exact ⟨v, by rw [hs, e1]⟩
theorem zip_set {e : EnvD} {σ : St} {i : Nat} {d : D} {o : Option V} : (e.set i d).zip (σ.set i o) = (e.zip σ).set i (d, o) := by
  induction e generalizing σ i with
  | nil => simp
  | cons x e ih =>
    cases σ with
    | nil => cases i <;> simp
    | cons y σ => cases i with
      | zero => rfl
      | succ i => simp only [List.set_cons_succ, List.zip_cons_cons, ih]
theorem set_perm {L : List Ent} {i : Nat} {x y : Ent} (h : L[i]? = some x) : (y :: L).Perm (x :: L.set i y) := by
  induction L generalizing i with
  | nil => cases h
  | cons a L ih => cases i with
    | zero => cases h; exact List.Perm.swap _ _ _
    | succ i =>
      simp only [List.set_cons_succ]
      exact (List.Perm.swap _ _ _).trans (((ih (i := i) (by simpa using h)).cons a).trans (List.Perm.swap _ _ _))
theorem zip_get {e : EnvD} {σ : St} {i : Nat} {d : D} {o : Option V} (h : e[i]? = some d) (k : σ[i]? = some o) : (e.zip σ)[i]? = some (d, o) := by
  rw [List.getElem?_zip_eq_some]; exact ⟨h, k⟩
theorem set_self {σ : St} {i : Nat} {o : Option V} (k : σ[i]? = some o) : σ.set i o = σ := by
  obtain ⟨hi, e⟩ := List.getElem?_eq_some_iff.mp k
  rw [← e]; exact List.set_getElem_self hi
/-- a slot's thing is taken out (y is left there) -/
theorem Stt.swap {H : Hp} {K : List Ent} {e : EnvD} {σ : St} {i : Nat} {d y : D} {o : Option V} (s : Stt H ((y, o) :: K) e σ) (h : e[i]? = some d) (k : σ[i]? = some o) : Stt H ((d, o) :: K) (e.set i y) σ := by
  refine ⟨by rw [List.length_set]; exact s.len, ?_⟩
  have z : (e.set i y).zip σ = (e.zip σ).set i (y, o) := by rw [← zip_set, set_self k]
  rw [z]
  refine s.si.perm ?_
  show ((y, o) :: (K ++ e.zip σ)).Perm ((d, o) :: (K ++ (e.zip σ).set i (y, o)))
  refine (List.perm_middle.symm.trans ?_).trans List.perm_middle
  exact (set_perm (zip_get h k)).append_left K
/-- a new thing is put into a slot -/
theorem Stt.put {H : Hp} {K : List Ent} {e : EnvD} {σ : St} {i : Nat} {y : D} {o : Option V} (s : Stt H ((y, o) :: K) e σ) (hi : i < e.length) : Stt H K (e.set i y) (σ.set i o) := by
  refine ⟨by rw [List.length_set, List.length_set]; exact s.len, ?_⟩
  rw [zip_set]
  have hs : i < σ.length := by rw [← s.len]; exact hi
  have g := zip_get (List.getElem?_eq_getElem hi) (List.getElem?_eq_getElem hs)
  refine SI.drop (x := (e[i], σ[i])) (s.si.perm ?_)
  show ((y, o) :: (K ++ e.zip σ)).Perm ((e[i], σ[i]) :: (K ++ (e.zip σ).set i (y, o)))
  refine (List.perm_middle.symm.trans ?_).trans List.perm_middle
  exact (set_perm g).append_left K

/-! ### names, constants -/
def eVar (i : Nat) : Ev := fun e => match e[i]? with
  | some d => if isJ d then .no else .ok (.slot i) e
  | none => .no
/-- a frozen thing, told again -/
def eCp (i : Nat) : Ev := fun e => match e[i]? with
  | some d => if isJ d || !fzn d then .no else .ok (.val d) e
  | none => .no
def eFz (i : Nat) : Ev := fun e => match e[i]? with
  | some d => if isJ d then .no else .ok (.val (fz d)) (e.set i (fz d))
  | none => .no
def eMv (i : Nat) : Ev := fun e => match e[i]? with
  | some d => if isJ d then .no else .ok (.val d) (e.set i .jnk)
  | none => .no
def eC (v : V) : Ev := fun e => .ok (.val (.atm v)) e
variable {X : Cx} {W : WX}
theorem ej_var {i : Nat} {x : Str} {pos : Pos} (hN : X.N[i]? = some x) (hv : Vis X.env.scope x) (hd : (x == ("__debug__" : Str)) = false := by decide) (hcd : (x == ("__classdict__" : Str)) = false := by decide) : EJ X W (.Name x pos) (eVar i) := by
  refine ⟨_, pe_var hN hv hd hcd, ?_⟩
  intro env σ K H Q s h
  unfold eVar at h
  cases e : env[i]? with
  | none => rw [e] at h; exact h.elim
  | some d =>
    rw [e] at h
    cases j : isJ d with
    | true => simp only [j, if_true] at h; exact h.elim
    | false =>
      simp only [j] at h
      obtain ⟨v, hv⟩ := slot_some s e j
      exact ⟨v, hv, h v H s hv⟩
theorem ej_cp {i : Nat} {x : Str} {pos : Pos} (hN : X.N[i]? = some x) (hv : Vis X.env.scope x) (hd : (x == ("__debug__" : Str)) = false := by decide) (hcd : (x == ("__classdict__" : Str)) = false := by decide) : EJ X W (.Name x pos) (eCp i) := by
  refine ⟨_, pe_var hN hv hd hcd, ?_⟩
  intro env σ K H Q s h
  unfold eCp at h
  cases e : env[i]? with
  | none => rw [e] at h; exact h.elim
  | some d =>
    rw [e] at h
    cases j : isJ d with
    | true => simp [j] at h; exact h.elim
    | false => cases f : fzn d with
      | false => simp [j, f] at h; exact h.elim
      | true =>
        simp [j, f] at h
        obtain ⟨v, hv⟩ := slot_some s e j
        refine ⟨v, hv, h v H ?_ trivial⟩
        have s1 := Stt.swap (y := .jnk) ⟨s.len, SI.jnk (o := some v) s.si⟩ e hv
        have s2 : Stt H ((d, some v) :: (d, some v) :: K) (env.set i .jnk) σ := ⟨s1.len, s1.si.dup f⟩
        have s3 := Stt.swap (i := i) (d := .jnk) (y := d) s2 (by
          rw [List.getElem?_set_self (List.getElem?_eq_some_iff.mp e).1]) hv
        have z : (env.set i D.jnk).set i d = env := by rw [List.set_set]; exact (by
          obtain ⟨hi, e2⟩ := List.getElem?_eq_some_iff.mp e
          rw [← e2]; exact List.set_getElem_self hi)
        rw [z] at s3
        exact ⟨s3.len, SI.drop s3.si⟩
theorem ej_fz {i : Nat} {x : Str} {pos : Pos} (hN : X.N[i]? = some x) (hv : Vis X.env.scope x) (hd : (x == ("__debug__" : Str)) = false := by decide) (hcd : (x == ("__classdict__" : Str)) = false := by decide) : EJ X W (.Name x pos) (eFz i) := by
  refine ⟨_, pe_var hN hv hd hcd, ?_⟩
  intro env σ K H Q s h
  unfold eFz at h
  cases e : env[i]? with
  | none => rw [e] at h; exact h.elim
  | some d =>
    rw [e] at h
    cases j : isJ d with
    | true => simp [j] at h; exact h.elim
    | false =>
      simp [j] at h
      obtain ⟨v, hv⟩ := slot_some s e j
      refine ⟨v, hv, h v H ?_ trivial⟩
      have s1 := Stt.swap (y := .jnk) ⟨s.len, SI.jnk (o := some v) s.si⟩ e hv
      have s2 : Stt H ((fz d, some v) :: (fz d, some v) :: K) (env.set i .jnk) σ := ⟨s1.len, (s1.si.fz).dup (fzn_fz d)⟩
      have s3 := Stt.swap (i := i) (d := .jnk) (y := fz d) s2 (by
        rw [List.getElem?_set_self (List.getElem?_eq_some_iff.mp e).1]) hv
      rw [List.set_set] at s3
      exact ⟨s3.len, SI.drop s3.si⟩
theorem ej_mv {i : Nat} {x : Str} {pos : Pos} (hN : X.N[i]? = some x) (hv : Vis X.env.scope x) (hd : (x == ("__debug__" : Str)) = false := by decide) (hcd : (x == ("__classdict__" : Str)) = false := by decide) : EJ X W (.Name x pos) (eMv i) := by
  refine ⟨_, pe_var hN hv hd hcd, ?_⟩
  intro env σ K H Q s h
  unfold eMv at h
  cases e : env[i]? with
  | none => rw [e] at h; exact h.elim
  | some d =>
    rw [e] at h
    cases j : isJ d with
    | true => simp [j] at h; exact h.elim
    | false =>
      simp [j] at h
      obtain ⟨v, hv⟩ := slot_some s e j
      exact ⟨v, hv, h v H (Stt.swap (y := .jnk) ⟨s.len, SI.jnk (o := some v) s.si⟩ e hv) trivial⟩
theorem eok_c {v : V} (n : NR v) : EOk W (tC v) (eC v) := fun env σ K H Q s h => h v H ⟨s.len, SI.atm s.si n⟩ trivial
theorem ej_int {i j pos} : EJ X W (.Constant (.int i) j pos) (eC (.int i)) := ⟨_, pe_int, eok_c (fun _ z => by cases z)⟩
theorem ej_bl {b j pos} : EJ X W (.Constant (.bool b) j pos) (eC (.bl b)) := ⟨_, pe_bl, eok_c (fun _ z => by cases z)⟩
theorem ej_non {j pos} : EJ X W (.Constant .none j pos) (eC .non) := ⟨_, pe_non, eok_c (fun _ z => by cases z)⟩
theorem ej_str {x j pos} : EJ X W (.Constant (.str x) j pos) (eC (.str x)) := ⟨_, pe_str, eok_c (fun _ z => by cases z)⟩

/-! ### operators -/
def eOp (g : D → D → Option D) (fa fb : Ev) : Ev := fun e => (fa e).bind fun ra e1 => (fb e1).bind fun rb e2 =>
  match peek ra e2, peek rb e2 with
  | some x, some y => (lift (g x y) e2).bind fun z e3 => .ok (.val z) e3
  | _, _ => .no
theorem eok_op {r : R2} {g : D → D → Option D} {ta tb : TE} {fa fb : Ev} (hg : Op2 r g) (ha : EOk W ta fa) (hb : EOk W tb fb) : EOk W (tOp r ta tb) (eOp g fa fb) := by
  intro env σ K H Q s h
  refine ha env σ K H _ s (MPost.mono (MPost.bind0 h) fun ra e1 h1 x H1 s1 o1 => ?_)
  refine hb e1 σ _ H1 _ s1 (MPost.mono (MPost.bind (K0 := ra.ent x) h1) fun rb e2 h2 y H2 s2 o2 => ?_)
  cases px : peek ra e2 with
  | none => simp only [px] at h2; exact h2.elim
  | some dx => cases py : peek rb e2 with
    | none => simp only [px, py] at h2; exact h2.elim
    | some dy =>
      simp only [px, py] at h2
      cases gz : g dx dy with
      | none => rw [gz] at h2; exact h2.elim
      | some z =>
        rw [gz] at h2
        refine hg H2 _ x y dx dy z Q s2.si ?_ ?_ gz fun u H' s3 => h2 u H' ?_ trivial
        · exact mem_peek (e := e2) (σ := σ) o1 (fun p hp => by simp [hp]) (fun p hp => by simp [hp]) px
        · exact mem_peek (e := e2) (σ := σ) o2 (fun p hp => by simp [hp]) (fun p hp => by simp [hp]) py
        · refine ⟨s2.len, ?_⟩
          have := SI.mid (A := [(z, some u)]) (B := rb.ent y ++ ra.ent x) (L := K ++ e2.zip σ) (by simpa using s3)
          exact this
theorem ej_op {op : Operator} {r : R2} {g : D → D → Option D} {a b : Expr} {fa fb : Ev} {pos : Pos} (ho : OpR X (binaryOp op) r) (hg : Op2 r g) (ha : EJ X W a fa) (hb : EJ X W b fb) : EJ X W (.BinOp a op b pos) (eOp g fa fb) := by
  obtain ⟨ta, pa, ka⟩ := ha
  obtain ⟨tb, pb, kb⟩ := hb
  exact ⟨_, pe_op ho pa pb, eok_op hg ka kb⟩
theorem ej_cmp {op : CmpOp} {r : R2} {g : D → D → Option D} {a b : Expr} {fa fb : Ev} {pos : Pos} (ho : OpR X (compareOp op) r) (hg : Op2 r g) (ha : EJ X W a fa) (hb : EJ X W b fb) (hm : behindInMarks op b = false := by rfl) : EJ X W (.Compare a [op] [b] pos) (eOp g fa fb) := by
  obtain ⟨ta, pa, ka⟩ := ha
  obtain ⟨tb, pb, kb⟩ := hb
  exact ⟨_, pe_cmpR ho pa pb hm, eok_op hg ka kb⟩
def tBl (f : Ev) : Tv := fun e => (f e).bind fun r e1 => match peek r e1 with
  | some (.atm (.bl b)) => .ok b e1
  | _ => .no
theorem tok_b {t : TE} {f : Ev} (h : EOk W t f) : TOk W (tB t) (tBl f) := by
  intro env σ K H Q s k
  refine h env σ K H _ s (MPost.mono (MPost.bind0 k) fun r e1 h1 v H1 s1 o1 => ?_)
  cases p : peek r e1 with
  | none => simp only [p] at h1; exact h1.elim
  | some d =>
    simp only [p] at h1
    have m := mem_peek (L := r.ent v ++ K ++ e1.zip σ) (e := e1) (σ := σ) o1 (fun p hp => by simp [hp]) (fun p hp => by simp [hp]) p
    have pk := s1.si.pkm m
    split at h1
    · rename_i b hb
      cases hb
      exact ⟨b, pk.atm, h1 H1 s1.drops⟩
    · exact h1.elim
theorem tj_cmp {op : CmpOp} {r : R2} {g : D → D → Option D} {a b : Expr} {fa fb : Ev} {pos : Pos} (ho : OpR X (compareOp op) r) (hg : Op2 r g) (ha : EJ X W a fa) (hb : EJ X W b fb) (hm : behindInMarks op b = false := by rfl) : TJ X W (.Compare a [op] [b] pos) (tBl (eOp g fa fb)) := by
  obtain ⟨ta, pa, ka⟩ := ha
  obtain ⟨tb, pb, kb⟩ := hb
  exact ⟨_, pt_cmpR ho pa pb hm, tok_b (eok_op hg ka kb)⟩
/-- an expression whose value is a bool -/
theorem tj_val {e : Expr} {f : Ev} (h : EJ X W e f) (he : ∀ whole, isTrue e X.env whole = (do let v ← whole; standAt e.pos; holding [v] (truthy v)) := by intro _; rfl) : TJ X W e (tBl f) := by
  obtain ⟨t, p, k⟩ := h
  exact ⟨_, pt_val p he, tok_b k⟩
def tNt (f : Tv) : Tv := fun e => (f e).bind fun b e1 => .ok (!b) e1
def tAn (f g : Tv) : Tv := fun e => (f e).bind fun b e1 => if b then g e1 else .ok false e1
def tOrr (f g : Tv) : Tv := fun e => (f e).bind fun b e1 => if b then .ok true e1 else g e1
theorem tj_not {a : Expr} {f : Tv} {pos : Pos} (h : TJ X W a f) : TJ X W (.UnaryOp .Not a pos) (tNt f) := by
  obtain ⟨t, p, k⟩ := h
  exact ⟨_, pt_not p, fun env σ K H Q s h => k env σ K H _ s (MPost.mono (MPost.bind0 h) fun b e1 h1 => h1)⟩
theorem tok_and {t u : TT} {f g : Tv} (h : TOk W t f) (k : TOk W u g) : TOk W (tAnd t u) (tAn f g) := by
  intro env σ K H Q s m
  refine h env σ K H _ s (MPost.mono (MPost.bind0 m) fun b e1 h1 H1 s1 => ?_)
  cases b with
  | true => exact k e1 σ K H1 Q s1 h1
  | false => exact h1 H1 s1
theorem tok_or {t u : TT} {f g : Tv} (h : TOk W t f) (k : TOk W u g) : TOk W (tOr t u) (tOrr f g) := by
  intro env σ K H Q s m
  refine h env σ K H _ s (MPost.mono (MPost.bind0 m) fun b e1 h1 H1 s1 => ?_)
  cases b with
  | false => exact k e1 σ K H1 Q s1 h1
  | true => exact h1 H1 s1
theorem wj_and1 {a : Expr} {f : Tv} {pos : Pos} (h : TJ X W a f) : WJ X W (.BoolOp .And [a] pos) f := by
  obtain ⟨t, p, k⟩ := h
  exact ⟨_, pw_and1 p, k⟩
theorem wj_or1 {a : Expr} {f : Tv} {pos : Pos} (h : TJ X W a f) : WJ X W (.BoolOp .Or [a] pos) f := by
  obtain ⟨t, p, k⟩ := h
  exact ⟨_, pw_or1 p, k⟩
theorem wj_and {a b : Expr} {rest : List Expr} {f g : Tv} {pos : Pos} (h : TJ X W a f) (h2 : WJ X W (.BoolOp .And (b :: rest) pos) g) : WJ X W (.BoolOp .And (a :: b :: rest) pos) (tAn f g) := by
  obtain ⟨t, p, k⟩ := h
  obtain ⟨u, q, m⟩ := h2
  exact ⟨_, pw_and p q, tok_and k m⟩
theorem wj_or {a b : Expr} {rest : List Expr} {f g : Tv} {pos : Pos} (h : TJ X W a f) (h2 : WJ X W (.BoolOp .Or (b :: rest) pos) g) : WJ X W (.BoolOp .Or (a :: b :: rest) pos) (tOrr f g) := by
  obtain ⟨t, p, k⟩ := h
  obtain ⟨u, q, m⟩ := h2
  exact ⟨_, pw_or p q, tok_or k m⟩
theorem tj_w {e : Expr} {f : Tv} (h : WJ X W e f) : TJ X W e f := by
  obtain ⟨t, p, k⟩ := h
  exact ⟨_, p.pt, k⟩
def eIf (c : Tv) (fa fb : Ev) : Ev := fun e => (c e).bind fun b e1 => if b then fa e1 else fb e1
theorem ej_if {c a b : Expr} {fc : Tv} {fa fb : Ev} {pos : Pos} (hc : TJ X W c fc) (ha : EJ X W a fa) (hb : EJ X W b fb) : EJ X W (.IfExp c a b pos) (eIf fc fa fb) := by
  obtain ⟨tc, pc, kc⟩ := hc
  obtain ⟨ta, pa, ka⟩ := ha
  obtain ⟨tb, pb, kb⟩ := hb
  refine ⟨_, pe_ifExp pc pa pb, fun env σ K H Q s h => kc env σ K H _ s (MPost.mono (MPost.bind0 h) fun b e1 h1 H1 s1 => ?_)⟩
  cases b with
  | true => exact ka e1 σ K H1 Q s1 h1
  | false => exact kb e1 σ K H1 Q s1 h1
/-- and, or, not as values -/
def eAn (fa fb : Ev) : Ev := fun e => (tBl fa e).bind fun b e1 => if b then fb e1 else .ok (.val (.atm (.bl false))) e1
def eOr (fa fb : Ev) : Ev := fun e => (tBl fa e).bind fun b e1 => if b then .ok (.val (.atm (.bl true))) e1 else fb e1
def eNt (fa : Ev) : Ev := fun e => (tBl fa e).bind fun b e1 => .ok (.val (.atm (.bl !b))) e1
theorem nr_bl {b : Bool} : NR (.bl b) := fun _ z => by cases z
theorem ej_one {op} {a : Expr} {f : Ev} {pos : Pos} (h : EJ X W a f) : EJ X W (.BoolOp op [a] pos) f := by
  obtain ⟨t, p, k⟩ := h
  exact ⟨_, pe_one p, k⟩
theorem ej_and {a b : Expr} {rest : List Expr} {fa fb : Ev} {pos : Pos} (ha : EJ X W a fa) (hb : EJ X W (.BoolOp .And (b :: rest) pos) fb) : EJ X W (.BoolOp .And (a :: b :: rest) pos) (eAn fa fb) := by
  obtain ⟨ta, pa, ka⟩ := ha
  obtain ⟨tb, pb, kb⟩ := hb
  refine ⟨_, pe_and pa pb, fun env σ K H Q s h => ?_⟩
  refine tok_b ka env σ K H (fun c H1 => if c = true then tb σ H1 Q else Q (.bl false) H1) s (MPost.mono (MPost.bind0 h) fun b e1 h1 H1 s1 => ?_)
  cases b with
  | true => exact kb e1 σ K H1 Q s1 h1
  | false => exact h1 _ H1 ⟨s1.len, SI.atm s1.si nr_bl⟩ trivial
theorem ej_or {a b : Expr} {rest : List Expr} {fa fb : Ev} {pos : Pos} (ha : EJ X W a fa) (hb : EJ X W (.BoolOp .Or (b :: rest) pos) fb) : EJ X W (.BoolOp .Or (a :: b :: rest) pos) (eOr fa fb) := by
  obtain ⟨ta, pa, ka⟩ := ha
  obtain ⟨tb, pb, kb⟩ := hb
  refine ⟨_, pe_or pa pb, fun env σ K H Q s h => ?_⟩
  refine tok_b ka env σ K H (fun c H1 => if c = true then Q (.bl true) H1 else tb σ H1 Q) s (MPost.mono (MPost.bind0 h) fun b e1 h1 H1 s1 => ?_)
  cases b with
  | false => exact kb e1 σ K H1 Q s1 h1
  | true => exact h1 _ H1 ⟨s1.len, SI.atm s1.si nr_bl⟩ trivial
theorem ej_not {a : Expr} {fa : Ev} {pos : Pos} (ha : EJ X W a fa) : EJ X W (.UnaryOp .Not a pos) (eNt fa) := by
  obtain ⟨ta, pa, ka⟩ := ha
  refine ⟨_, pe_not pa, fun env σ K H Q s h => ?_⟩
  exact tok_b ka env σ K H (fun c H1 => Q (.bl (!c)) H1) s (MPost.mono (MPost.bind0 h) fun b e1 h1 H1 s1 => h1 _ H1 ⟨s1.len, SI.atm s1.si nr_bl⟩ trivial)
end VS
set_option Elab.async false
set_option linter.all false
set_option maxRecDepth 100000
namespace VS
open PySem L2

theorem Stt.perm {H : Hp} {K K' : List Ent} {e : EnvD} {σ : St} (s : Stt H K e σ) (p : K.Perm K') : Stt H K' e σ := ⟨s.len, s.si.perm (p.append_right _)⟩
theorem SI.sub {H : Hp} {A A' L : List Ent} (h : SI H (A ++ L)) (s : A'.Sublist A) : SI H (A' ++ L) := by
  obtain ⟨r, p⟩ := s.exists_perm_append
  have h1 : SI H (r ++ (A' ++ L)) := h.perm ((p.append_right L).trans (by
    rw [← List.append_assoc]
    exact List.perm_append_comm.append_right _))
  exact h1.drops

theorem MPost.bindE {α β : Type} {W : WX} {K K0 K1 : List Ent} {σ : St} {P : β → EnvD → Prop} {m : M α} {k : α → EnvD → M β} (h : MPost W K σ P (m.bind k)) (e : K1 = K0 ++ K) :
    MPost W K1 σ (fun a e => MPost W K σ P (k a e)) m := by
  rw [e]; exact MPost.bind h

/-! ### argument lists -/
def aNil : Av := fun e => .ok [] e
def aCons (f : Ev) (g : Av) : Av := fun e => (f e).bind fun r e1 => (g e1).bind fun rs e2 => .ok (r :: rs) e2
variable {X : Cx} {W : WX}
theorem aj_nil : AJ X W [] aNil := ⟨_, pa_nil, fun env σ K H Q s h => h [] H s trivial⟩
theorem aj_cons {a : Expr} {es : List Expr} {f : Ev} {g : Av} (ha : EJ X W a f) (hb : AJ X W es g) (hs : starEach (a :: es) X.env = (false, eval a X.env) :: starEach es X.env := by rfl) : AJ X W (a :: es) (aCons f g) := by
  obtain ⟨ta, pa, ka⟩ := ha
  obtain ⟨tb, pb, kb⟩ := hb
  refine ⟨_, pa_cons pa pb hs, fun env σ K H Q s h => ?_⟩
  refine ka env σ K H _ s (MPost.mono (MPost.bind0 h) fun r e1 h1 v H1 s1 o1 => ?_)
  refine kb e1 σ _ H1 _ s1 (MPost.mono (MPost.bind (K0 := r.ent v) h1) fun rs e2 h2 vs H2 s2 o2 => ?_)
  refine h2 (v :: vs) H2 (s2.perm ?_) ⟨o1, o2⟩
  show (ents rs vs ++ (r.ent v ++ K)).Perm (r.ent v ++ ents rs vs ++ K)
  rw [← List.append_assoc]
  exact List.perm_append_comm.append_right _
def vals : List R → Option (List D)
  | [] => some []
  | .val d :: rs => match vals rs with
    | some ds => some (d :: ds)
    | none => none
  | .slot _ :: _ => none
theorem vals_ents {σ : St} : ∀ {rs : List R} {vs : List V} {ds : List D}, vals rs = some ds → oks σ rs vs → ents rs vs = ds.zip (vs.map some) ∧ ds.length = vs.length
  | [], [], ds, h, o => by cases h; exact ⟨rfl, rfl⟩
  | [], _ :: _, ds, h, o => o.elim
  | .val d :: rs, [], ds, h, o => o.elim
  | .val d :: rs, v :: vs, ds, h, o => by
    unfold vals at h
    cases e : vals rs with
    | none => rw [e] at h; cases h
    | some ds' =>
      rw [e] at h
      cases h
      obtain ⟨a, b⟩ := vals_ents e o.2
      exact ⟨by show (d, some v) :: ents rs vs = _; rw [a]; rfl, by simp [b]⟩
  | .slot i :: rs, vs, ds, h, o => by cases h
def peeks : List R → EnvD → Option (List D)
  | [], _ => some []
  | r :: rs, e => match peek r e, peeks rs e with
    | some d, some ds => some (d :: ds)
    | _, _ => none
theorem mems_of {e : EnvD} {σ : St} {L : List Ent} (sz : ∀ p ∈ e.zip σ, p ∈ L) : ∀ {rs : List R} {vs : List V} {ds : List D}, peeks rs e = some ds → oks σ rs vs → (∀ p ∈ ents rs vs, p ∈ L) → Mems L ds vs
  | [], [], ds, h, o, m => by cases h; trivial
  | [], _ :: _, ds, h, o, m => o.elim
  | r :: rs, [], ds, h, o, m => o.elim
  | r :: rs, v :: vs, ds, h, o, m => by
    unfold peeks at h
    cases p1 : peek r e with
    | none => rw [p1] at h; cases h
    | some d => cases p2 : peeks rs e with
      | none => rw [p1, p2] at h; cases h
      | some ds' =>
        rw [p1, p2] at h
        cases h
        exact ⟨mem_peek o.1 (fun p hp => m p (List.mem_append_left _ hp)) sz p1, mems_of sz p2 o.2 fun p hp => m p (List.mem_append_right _ hp)⟩

/-! ### displays -/
def eDis (mk : List D → D) (fa : Av) : Ev := fun e => (fa e).bind fun rs e1 => match vals rs with
  | some ds => if ds.length ≤ 16777216 then .ok (.val (mk ds)) e1 else .no
  | none => .no
theorem ej_lst {es : List Expr} {f : Av} {pos : Pos} (h : AJ X W es f) : EJ X W (.List es pos) (eDis (.lst true) f) := by
  obtain ⟨t, p, k⟩ := h
  refine ⟨_, pe_lst p, fun env σ K H Q s h => k env σ K H _ s (MPost.mono (MPost.bind0 h) fun rs e1 h1 vs H1 s1 o1 => ?_)⟩
  cases e : vals rs with
  | none => simp only [e] at h1; exact h1.elim
  | some ds =>
    simp only [e] at h1
    obtain ⟨z, zl⟩ := vals_ents e o1
    by_cases c : ds.length ≤ 16777216
    · rw [if_pos c] at h1
      refine ⟨by rw [← zl, sizeLine_eq]; exact c, fun q hq => h1 _ _ ⟨s1.len, ?_⟩ trivial⟩
      have := s1.si
      rw [z, List.append_assoc] at this
      exact SI.newL this zl hq
    · rw [if_neg c] at h1; exact h1.elim
theorem ej_tup {es : List Expr} {f : Av} {x1 : _} {pos : Pos} (h : AJ X W es f) : EJ X W (.Tuple es x1 pos) (eDis .tup f) := by
  obtain ⟨t, p, k⟩ := h
  refine ⟨_, pe_tup p, fun env σ K H Q s h => k env σ K H _ s (MPost.mono (MPost.bind0 h) fun rs e1 h1 vs H1 s1 o1 => ?_)⟩
  cases e : vals rs with
  | none => simp only [e] at h1; exact h1.elim
  | some ds =>
    simp only [e] at h1
    obtain ⟨z, zl⟩ := vals_ents e o1
    by_cases c : ds.length ≤ 16777216
    · rw [if_pos c] at h1
      refine ⟨by rw [← zl, sizeLine_eq]; exact c, fun q hq => h1 _ _ ⟨s1.len, ?_⟩ trivial⟩
      have := s1.si
      rw [z, List.append_assoc] at this
      exact SI.newT this zl hq
    · rw [if_neg c] at h1; exact h1.elim

/-! ### operators on ints -/
def gI (C : Int → Int → Bool) (f : Int → Int → V) : D → D → Option D
  | .atm (.int i), .atm (.int j) => if C i j then some (.atm (f i j)) else none
  | _, _ => none
def gI0 (f : Int → Int → V) : D → D → Option D
  | .atm (.int i), .atm (.int j) => some (.atm (f i j))
  | _, _ => none
@[simp] theorem gI_int (C : Int → Int → Bool) (f : Int → Int → V) (i j : Int) : gI C f (.atm (.int i)) (.atm (.int j)) = if C i j then some (.atm (f i j)) else none := rfl
@[simp] theorem gI0_int (f : Int → Int → V) (i j : Int) : gI0 f (.atm (.int i)) (.atm (.int j)) = some (.atm (f i j)) := rfl
theorem nr_int {i : Int} : NR (.int i) := fun _ z => by cases z
theorem nr_str {i : Str} : NR (.str i) := fun _ z => by cases z
theorem op2_rI {C : Int → Int → Prop} {g : Int → Int → V} {CB : Int → Int → Bool} (hC : ∀ i j, CB i j = true → C i j) (hn : ∀ i j, NR (g i j)) : Op2 (rI C g) (gI CB g) := by
  intro H L x y dx dy z Q s mx my hz q
  unfold gI at hz
  split at hz
  · rename_i i j
    split at hz
    · rename_i c
      cases hz
      exact ⟨i, j, (s.pkm mx).atm, (s.pkm my).atm, hC i j c, q _ H (s.atm (hn i j))⟩
    · cases hz
  · cases hz
theorem op2_rI0 {g : Int → Int → V} (hn : ∀ i j, NR (g i j)) : Op2 (rI0 g) (gI0 g) := by
  intro H L x y dx dy z Q s mx my hz q
  unfold gI0 at hz
  split at hz
  · rename_i i j
    cases hz
    exact ⟨i, j, (s.pkm mx).atm, (s.pkm my).atm, q _ H (s.atm (hn i j))⟩
  · cases hz
def gSub : D → D → Option D := gI0 fun i j => .int (i - j)
def cMul (i j : Int) : Bool := (decide (-(2 ^ 64) < i) && decide (i < 2 ^ 64)) || (decide (-(2 ^ 64) < j) && decide (j < 2 ^ 64))
def gMul : D → D → Option D := gI cMul fun i j => .int (i * j)
def gMod : D → D → Option D := gI (fun _ j => decide (0 < j)) fun i j => .int (i % j)
def cDiv (_ j : Int) : Bool := decide (0 < j) && decide (j < 1073741824)
def gDiv : D → D → Option D := gI cDiv fun i j => .int (i / j)
def cMulW (i j : Int) : Bool := decide (i.natAbs.log2 + j.natAbs.log2 < 1000000)
def gMulW : D → D → Option D := gI cMulW fun i j => .int (i * j)
def cDivW (_ j : Int) : Bool := decide (0 < j) && decide (j.natAbs.log2 < 9000)
def gDivW : D → D → Option D := gI cDivW fun i j => .int (i / j)
def cPow (i j : Int) : Bool := decide (0 ≤ j) && decide (j ≤ 1000000) && decide (i.natAbs < 2 ^ 64)
def gPow : D → D → Option D := gI cPow fun i j => .int (i ^ j.toNat)
def gShl : D → D → Option D := gI cPow fun i j => .int (i * 2 ^ j.toNat)
def gShr : D → D → Option D := gI (fun _ j => decide (0 ≤ j)) fun i j => .int (i / 2 ^ j.toNat)
def gAnd : D → D → Option D := gI0 fun i j => .int (Builtin.bitAnd i j)
def gLt : D → D → Option D := gI0 fun i j => .bl (decide (i < j))
def gLe : D → D → Option D := gI0 fun i j => .bl (decide (i ≤ j))
def gGt : D → D → Option D := gI0 fun i j => .bl (decide (j < i))
def gGe : D → D → Option D := gI0 fun i j => .bl (decide (j ≤ i))
section
variable {a b : Expr} {fa fb : Ev} {pos : Pos} (ha : EJ X W a fa) (hb : EJ X W b fb)
include ha hb
theorem ej_sub : EJ X W (.BinOp a .Sub b pos) (eOp gSub fa fb) := ej_op op_sub (op2_rI0 fun _ _ => nr_int) ha hb
theorem ej_mul : EJ X W (.BinOp a .Mult b pos) (eOp gMul fa fb) := ej_op op_mul (op2_rI (fun i j c => by simpa [cMul, CMul] using c) fun _ _ => nr_int) ha hb
theorem ej_mulW : EJ X W (.BinOp a .Mult b pos) (eOp gMulW fa fb) := ej_op op_mulW (op2_rI (fun i j c => by simpa [cMulW, CMulW] using c) fun _ _ => nr_int) ha hb
theorem ej_mod : EJ X W (.BinOp a .Mod b pos) (eOp gMod fa fb) := ej_op op_mod (op2_rI (fun i j c => by simpa using c) fun _ _ => nr_int) ha hb
theorem ej_div : EJ X W (.BinOp a .FloorDiv b pos) (eOp gDiv fa fb) := ej_op op_fdiv (op2_rI (fun i j c => by simpa [cDiv, CDiv] using c) fun _ _ => nr_int) ha hb
theorem ej_divW : EJ X W (.BinOp a .FloorDiv b pos) (eOp gDivW fa fb) := ej_op op_fdivW (op2_rI (fun i j c => by simpa [cDivW, CDivW] using c) fun _ _ => nr_int) ha hb
theorem ej_pow : EJ X W (.BinOp a .Pow b pos) (eOp gPow fa fb) := ej_op op_pow (op2_rI (fun i j c => by simpa [cPow, CPow, and_assoc] using c) fun _ _ => nr_int) ha hb
theorem ej_shl : EJ X W (.BinOp a .LShift b pos) (eOp gShl fa fb) := ej_op op_shl (op2_rI (fun i j c => by simpa [cPow, CPow, and_assoc] using c) fun _ _ => nr_int) ha hb
theorem ej_shr : EJ X W (.BinOp a .RShift b pos) (eOp gShr fa fb) := ej_op op_shr (op2_rI (fun i j c => by simpa using c) fun _ _ => nr_int) ha hb
theorem ej_band : EJ X W (.BinOp a .BitAnd b pos) (eOp gAnd fa fb) := ej_op op_and (op2_rI0 fun _ _ => nr_int) ha hb
end
theorem o_lt : OpR X (compareOp .Lt) (rI0 fun i j => .bl (decide (i < j))) ∧ Op2 (rI0 fun i j => .bl (decide (i < j))) gLt := ⟨op_lt, op2_rI0 fun _ _ => nr_bl⟩
theorem o_le : OpR X (compareOp .LtE) (rI0 fun i j => .bl (decide (i ≤ j))) ∧ Op2 (rI0 fun i j => .bl (decide (i ≤ j))) gLe := ⟨op_le, op2_rI0 fun _ _ => nr_bl⟩
theorem o_gt : OpR X (compareOp .Gt) (rI0 fun i j => .bl (decide (j < i))) ∧ Op2 (rI0 fun i j => .bl (decide (j < i))) gGt := ⟨op_gt, op2_rI0 fun _ _ => nr_bl⟩
theorem o_ge : OpR X (compareOp .GtE) (rI0 fun i j => .bl (decide (j ≤ i))) ∧ Op2 (rI0 fun i j => .bl (decide (j ≤ i))) gGe := ⟨op_ge, op2_rI0 fun _ _ => nr_bl⟩

/-! ### + : ints, lists -/
def gAdd : D → D → Option D
  | .atm (.int i), .atm (.int j) => some (.atm (.int (i + j)))
  | .lst _ xs, .lst _ ys => if fzns xs && fzns ys && decide (xs.length + ys.length ≤ 16777216) then some (.lst true (xs ++ ys)) else none
  | _, _ => none
@[simp] theorem gAdd_int (i j : Int) : gAdd (.atm (.int i)) (.atm (.int j)) = some (.atm (.int (i + j))) := rfl
def rAddA : R2 := fun x y H Q => rI0 (fun i j => .int (i + j)) x y H Q ∨ rCat x y H Q
theorem op_addA : OpR X (binaryOp .Add) rAddA := by
  intro pins s σ H x y v u Q I rx ry h
  rcases h with h | h
  · exact op_add pins s σ H x y v u Q I rx ry h
  · exact op_cat pins s σ H x y v u Q I rx ry h
theorem op2_add : Op2 rAddA gAdd := by
  intro H L x y dx dy z Q s mx my hz q
  unfold gAdd at hz
  split at hz
  · rename_i i j
    cases hz
    exact .inl ⟨i, j, (s.pkm mx).atm, (s.pkm my).atm, q _ H (s.atm nr_int)⟩
  · rename_i o1 xs o2 ys
    split at hz
    · rename_i c
      cases hz
      simp only [Bool.and_eq_true, decide_eq_true_eq] at c
      obtain ⟨a, vs, e1, h1, l1, s1⟩ := s.kidsL mx c.1.1
      obtain ⟨b, ws, e2, h2, l2, s2⟩ := s1.kidsL (List.mem_append_right _ my) c.1.2
      refine .inr ⟨a, b, vs, ws, e1, e2, h1, h2, by rw [← l1, ← l2, sizeLine_eq]; exact c.2, fun p hp => q _ _ ?_⟩
      have s3 : SI H ((xs ++ ys).zip ((vs ++ ws).map some) ++ L) := by
        rw [List.map_append, List.zip_append (by simpa using l1)]
        refine s2.perm ?_
        rw [← List.append_assoc]
        exact List.perm_append_comm.append_right _
      exact SI.newL s3 (by simp [l1, l2]) hp
    · cases hz
  · cases hz
theorem ej_add {a b : Expr} {fa fb : Ev} {pos : Pos} (ha : EJ X W a fa) (hb : EJ X W b fb) : EJ X W (.BinOp a .Add b pos) (eOp gAdd fa fb) := ej_op op_addA op2_add ha hb

/-! ### x is None -/
def gIsN (neg : Bool) : D → Option D
  | .jnk => none
  | .gho _ => none
  | .hol _ => none
  | .atm v => some (.atm (.bl (if neg then !decide (v = .non) else decide (v = .non))))
  | _ => some (.atm (.bl neg))
def eU (g : D → Option D) (fa : Ev) : Ev := fun e => (fa e).bind fun ra e1 => match peek ra e1 with
  | some x => (lift (g x) e1).bind fun z e2 => .ok (.val z) e2
  | none => .no
theorem eok_u {r : V → Hp → VK → Prop} {g : D → Option D} {ta : TE} {fa : Ev} (hg : Op1 r g) (ha : EOk W ta fa) : EOk W (tUn r ta) (eU g fa) := by
  intro env σ K H Q s h
  refine ha env σ K H _ s (MPost.mono (MPost.bind0 h) fun ra e1 h1 x H1 s1 o1 => ?_)
  cases px : peek ra e1 with
  | none => simp only [px] at h1; exact h1.elim
  | some dx =>
    simp only [px] at h1
    cases gz : g dx with
    | none => rw [gz] at h1; exact h1.elim
    | some z =>
      rw [gz] at h1
      refine hg H1 _ x dx z Q s1.si ?_ gz fun u H' s3 => h1 u H' ⟨s1.len, ?_⟩ trivial
      · exact mem_peek (e := e1) (σ := σ) o1 (fun p hp => by simp [hp]) (fun p hp => by simp [hp]) px
      · exact SI.mid (A := [(z, some u)]) (B := ra.ent x) (L := K ++ e1.zip σ) (by simpa using s3)
def rIsN (neg : Bool) : V → Hp → VK → Prop := fun x H Q => Q (.bl (if neg then !decide (x = .non) else decide (x = .non))) H
theorem op1_isN (neg : Bool) : Op1 (rIsN neg) (gIsN neg) := by
  intro H L x dx z Q s mx hz q
  have key : ∀ a, x = .ref a → z = .atm (.bl neg) → rIsN neg x H Q := by
    intro a e e'
    subst e; subst e'
    show Q (.bl (if neg then !decide (V.ref a = .non) else decide (V.ref a = .non))) H
    have : decide (V.ref a = .non) = false := by simp
    rw [this]
    cases neg <;> exact q _ H (s.atm nr_bl)
  unfold gIsN at hz
  split at hz
  · cases hz
  · cases hz
  · cases hz
  · rename_i v
    cases hz
    have := (s.pkm mx).atm
    subst this
    exact q _ H (s.atm nr_bl)
  · rename_i n1 n0 n2 n3
    cases hz
    cases dx with
    | jnk => exact absurd rfl n1
    | gho S => exact absurd rfl (n0 S)
    | hol v => exact absurd rfl (n2 v)
    | atm v => exact absurd rfl (n3 v)
    | exo a da c ns xs =>
      obtain ⟨G, F, r, l⟩ := s.pkm mx
      unfold Rep at r
      obtain ⟨vs, e, _⟩ := r
      exact key a (Option.some.inj e) rfl
    | cls c =>
      obtain ⟨G, F, r, l⟩ := s.pkm mx
      unfold Rep at r
      exact key c (Option.some.inj r.1) rfl
    | dct own ks xs =>
      obtain ⟨G, F, r, l⟩ := s.pkm mx
      unfold Rep at r
      obtain ⟨a, vs, F1, e, _⟩ := r
      exact key a (Option.some.inj e) rfl
    | lst own xs => obtain ⟨a, vs, e, _⟩ := (s.pkm mx).lst; exact key a e rfl
    | tup xs => obtain ⟨a, vs, e, _⟩ := (s.pkm mx).tup; exact key a e rfl
    | ins own c ns xs => obtain ⟨a, dx, vs, e, _⟩ := (s.pkm mx).ins; exact key a e rfl
    | xdt ns xs => obtain ⟨a, vs, e, _⟩ := (s.pkm mx).xdt; exact key a e rfl
    | scr xs => obtain ⟨a, e, _⟩ := (s.pkm mx).scr; exact key a e rfl
theorem ej_isN {a : Expr} {fa : Ev} {j pos' pos} (ha : EJ X W a fa) : EJ X W (.Compare a [.Is] [.Constant .none j pos'] pos) (eU (gIsN false) fa) := by
  obtain ⟨t, p, k⟩ := ha
  exact ⟨_, pe_cmp (pc_isN p), eok_u (op1_isN false) k⟩
theorem ej_notN {a : Expr} {fa : Ev} {j pos' pos} (ha : EJ X W a fa) : EJ X W (.Compare a [.IsNot] [.Constant .none j pos'] pos) (eU (gIsN true) fa) := by
  obtain ⟨t, p, k⟩ := ha
  exact ⟨_, pe_cmp (pc_notN p), eok_u (op1_isN true) k⟩
theorem tj_isN {a : Expr} {fa : Ev} {j pos' pos} (ha : EJ X W a fa) : TJ X W (.Compare a [.Is] [.Constant .none j pos'] pos) (tBl (eU (gIsN false) fa)) := by
  obtain ⟨t, p, k⟩ := ha
  exact ⟨_, pt_cmp (pc_isN p), tok_b (eok_u (op1_isN false) k)⟩
theorem tj_notN {a : Expr} {fa : Ev} {j pos' pos} (ha : EJ X W a fa) : TJ X W (.Compare a [.IsNot] [.Constant .none j pos'] pos) (tBl (eU (gIsN true) fa)) := by
  obtain ⟨t, p, k⟩ := ha
  exact ⟨_, pt_cmp (pc_notN p), tok_b (eok_u (op1_isN true) k)⟩
/-- -n -/
def gNeg : D → Option D
  | .atm (.int i) => some (.atm (.int (-i)))
  | _ => none

/-! ### equality, in -/
mutual
def toP : D → Option PyData
  | .atm .non => some .none
  | .atm (.bl b) => some (.bool b)
  | .atm (.int i) => some (.int i)
  | .atm (.str x) => some (.str x)
  | .lst _ xs => match toPs xs with
    | some ps => some (.list ps)
    | none => none
  | .tup xs => match toPs xs with
    | some ps => some (.tuple ps)
    | none => none
  | _ => none
def toPs : List D → Option (List PyData)
  | [] => some []
  | d :: ds => match toP d, toPs ds with
    | some p, some ps => some (p :: ps)
    | _, _ => none
end
mutual
theorem Rep.dp {G H : Hp} {Kf : PySem.W.Frag} (l : Le G H) : ∀ (d : D) (v : V) (F : List Addr) (p : PyData), Rep G H d (some v) F → toP d = some p → Dp Kf H v p
  | .jnk, v, F, p, h, e => by simp [toP] at e
  | .atm w, v, F, p, h, e => by
    unfold Rep at h
    have := Option.some.inj h.1
    subst this
    cases v <;> simp [toP] at e <;> subst e <;> constructor
  | .lst own xs, v, F, p, h, e => by
    unfold Rep at h
    obtain ⟨a, vs, F1, ev, r, lo⟩ := h
    cases ev
    unfold toP at e
    cases e1 : toPs xs with
    | none => rw [e1] at e; cases e
    | some ps =>
      rw [e1] at e
      cases e
      exact .lst (.inl (.inl (lo.rd l))) (Reps.dp l xs vs F1 ps r e1)
  | .tup xs, v, F, p, h, e => by
    unfold Rep at h
    obtain ⟨a, vs, ev, r, lo⟩ := h
    cases ev
    unfold toP at e
    cases e1 : toPs xs with
    | none => rw [e1] at e; cases e
    | some ps =>
      rw [e1] at e
      cases e
      exact .tup (.inl (.inl (l _ _ lo))) (Reps.dp l xs vs F ps r e1)
  | .ins own c ns xs, v, F, p, h, e => by simp [toP] at e
  | .xdt ns xs, v, F, p, h, e => by simp [toP] at e
  | .scr xs, v, F, p, h, e => by simp [toP] at e
  | .hol w, v, F, p, h, e => by simp [toP] at e
  | .exo a da c ns xs, v, F, p, h, e => by simp [toP] at e
  | .cls c, v, F, p, h, e => by simp [toP] at e
  | .dct own ks xs, v, F, p, h, e => by simp [toP] at e
  | .gho S, v, F, p, h, e => by simp [toP] at e
theorem Reps.dp {G H : Hp} {Kf : PySem.W.Frag} (l : Le G H) : ∀ (ds : List D) (vs : List V) (F : List Addr) (ps : List PyData), Reps G H ds vs F → toPs ds = some ps → DpAll Kf H vs ps
  | [], vs, F, ps, h, e => by
    unfold Reps at h
    obtain ⟨rfl, _⟩ := h
    simp [toPs] at e
    subst e
    exact .nil
  | d :: ds, vs, F, ps, h, e => by
    unfold Reps at h
    obtain ⟨v, vr, F1, F2, e1, ef, r1, r2⟩ := h
    subst e1
    unfold toPs at e
    cases p1 : toP d with
    | none => rw [p1] at e; cases e
    | some p => cases p2 : toPs ds with
      | none => rw [p1, p2] at e; cases e
      | some ps' =>
        rw [p1, p2] at e
        cases e
        exact .cons (Rep.dp l d v F1 p r1 p1) (Reps.dp l ds vr F2 ps' r2 p2)
end
theorem Pk.dp {Kf : PySem.W.Frag} {H : Hp} {d : D} {v : V} {p : PyData} (h : Pk H d v) (e : toP d = some p) : Dp Kf H v p := by
  obtain ⟨G, F, r, l⟩ := h
  exact Rep.dp l d v F p r e
def gEq (neg : Bool) : D → D → Option D := fun x y => match toP x, toP y with
  | some p, some q => if SeqAt.shaped p && SeqAt.shaped q then some (.atm (.bl (if neg then !PyData.eqv p q else PyData.eqv p q))) else none
  | _, _ => none
def gIn (neg : Bool) : D → D → Option D := fun x y => match toP x, toP y with
  | some p, some (.list ps) => if SeqAt.shaped p && SeqAt.shaped (.list ps) then some (.atm (.bl (if neg then !ps.any (fun z => PyData.eqv z p) else ps.any (fun z => PyData.eqv z p)))) else none
  | _, _ => none
theorem op2_eq (Kf : PySem.W.Frag) : Op2 (rEqD Kf) (gEq false) := by
  intro H L x y dx dy z Q s mx my hz q
  unfold gEq at hz
  split at hz
  · rename_i p p' e1 e2
    split at hz
    · rename_i c
      cases hz
      simp only [Bool.and_eq_true] at c
      exact ⟨p, p', (s.pkm mx).dp e1, (s.pkm my).dp e2, c.1, c.2, q _ H (s.atm nr_bl)⟩
    · cases hz
  · cases hz
theorem op2_ne (Kf : PySem.W.Frag) : Op2 (rNeD Kf) (gEq true) := by
  intro H L x y dx dy z Q s mx my hz q
  unfold gEq at hz
  split at hz
  · rename_i p p' e1 e2
    split at hz
    · rename_i c
      cases hz
      simp only [Bool.and_eq_true] at c
      exact ⟨p, p', (s.pkm mx).dp e1, (s.pkm my).dp e2, c.1, c.2, q _ H (s.atm nr_bl)⟩
    · cases hz
  · cases hz
theorem op2_in (Kf : PySem.W.Frag) : Op2 (rInD Kf) (gIn false) := by
  intro H L x y dx dy z Q s mx my hz q
  unfold gIn at hz
  split at hz
  · rename_i p ps e1 e2
    split at hz
    · rename_i c
      cases hz
      simp only [Bool.and_eq_true] at c
      exact ⟨p, ps, (s.pkm mx).dp e1, (s.pkm my).dp e2, c.1, c.2, q _ H (s.atm nr_bl)⟩
    · cases hz
  · cases hz
theorem op2_notin (Kf : PySem.W.Frag) : Op2 (rNotInD Kf) (gIn true) := by
  intro H L x y dx dy z Q s mx my hz q
  unfold gIn at hz
  split at hz
  · rename_i p ps e1 e2
    split at hz
    · rename_i c
      cases hz
      simp only [Bool.and_eq_true] at c
      exact ⟨p, ps, (s.pkm mx).dp e1, (s.pkm my).dp e2, c.1, c.2, q _ H (s.atm nr_bl)⟩
    · cases hz
  · cases hz
theorem o_eq (hu : X.A.units + 65 < cLine) : OpR X (compareOp .Eq) (rEqD X.K) ∧ Op2 (rEqD X.K) (gEq false) := ⟨op_eqD (by omega), op2_eq _⟩
theorem o_ne (hu : X.A.units + 65 < cLine) : OpR X (compareOp .NotEq) (rNeD X.K) ∧ Op2 (rNeD X.K) (gEq true) := ⟨op_neD (by omega), op2_ne _⟩
theorem o_in (hu : X.A.units + 65 < cLine) : OpR X (compareOp .In) (rInD X.K) ∧ Op2 (rInD X.K) (gIn false) := ⟨op_inD hu, op2_in _⟩
theorem o_notin (hu : X.A.units + 65 < cLine) : OpR X (compareOp .NotIn) (rNotInD X.K) ∧ Op2 (rNotInD X.K) (gIn true) := ⟨op_notInD hu, op2_notin _⟩
section
variable {op op' : CmpOp} {r r' : R2} {g g' : D → D → Option D} {a b c : Expr} {fa fb fc : Ev} {pos : Pos}
theorem ej_cm (o : OpR X (compareOp op) r ∧ Op2 r g) (ha : EJ X W a fa) (hb : EJ X W b fb) (hm : behindInMarks op b = false := by rfl) : EJ X W (.Compare a [op] [b] pos) (eOp g fa fb) := ej_cmp o.1 o.2 ha hb hm
theorem tj_cm (o : OpR X (compareOp op) r ∧ Op2 r g) (ha : EJ X W a fa) (hb : EJ X W b fb) (hm : behindInMarks op b = false := by rfl) : TJ X W (.Compare a [op] [b] pos) (tBl (eOp g fa fb)) := tj_cmp o.1 o.2 ha hb hm
/-- a < b < c -/
def eCh (g g' : D → D → Option D) (fa fb fc : Ev) : Ev := fun e => (fa e).bind fun ra e1 => (fb e1).bind fun rb e2 =>
  match peek ra e2, peek rb e2 with
  | some x, some y => match g x y with
    | some (.atm (.bl true)) => (fc e2).bind fun rc e3 => match peek rb e3, peek rc e3 with
      | some y, some z => (lift (g' y z) e3).bind fun w e4 => .ok (.val w) e4
      | _, _ => .no
    | some (.atm (.bl false)) => .ok (.val (.atm (.bl false))) e2
    | _ => .no
  | _, _ => .no
theorem eok_ch {ta tb tc : TE} (hg : Op2 r g) (hg' : Op2 r' g') (ha : EOk W ta fa) (hb : EOk W tb fb) (hc : EOk W tc fc) : EOk W (tChain r r' ta tb tc) (eCh g g' fa fb fc) := by
  intro env σ K H Q s h
  refine ha env σ K H _ s (MPost.mono (MPost.bind0 h) fun ra e1 h1 x H1 s1 o1 => ?_)
  refine hb e1 σ _ H1 _ s1 (MPost.mono (MPost.bind (K0 := ra.ent x) h1) fun rb e2 h2 y H2 s2 o2 => ?_)
  cases px : peek ra e2 with
  | none => simp only [px] at h2; exact h2.elim
  | some dx => cases py : peek rb e2 with
    | none => simp only [px, py] at h2; exact h2.elim
    | some dy =>
      simp only [px, py] at h2
      have m1 := mem_peek (L := rb.ent y ++ (ra.ent x ++ K) ++ e2.zip σ) (e := e2) (σ := σ) o1 (fun p hp => by simp [hp]) (fun p hp => by simp [hp]) px
      have m2 := mem_peek (L := rb.ent y ++ (ra.ent x ++ K) ++ e2.zip σ) (e := e2) (σ := σ) o2 (fun p hp => by simp [hp]) (fun p hp => by simp [hp]) py
      split at h2
      · rename_i gz
        refine hg H2 _ x y dx dy _ _ s2.si m1 m2 gz fun u H3 s3 => ⟨true, (s3.pk).atm, ?_⟩
        rw [if_pos rfl]
        refine hc e2 σ (rb.ent y ++ (ra.ent x ++ K)) H3 _ ⟨s2.len, s3.drop⟩ (MPost.mono (MPost.bindE h2 (K0 := rb.ent y ++ ra.ent x) (List.append_assoc _ _ _).symm) fun rc e3 h3 w H4 s4 o3 => ?_)
        · cases py' : peek rb e3 with
          | none => simp only [py'] at h3; exact h3.elim
          | some dy' => cases pz : peek rc e3 with
            | none => simp only [py', pz] at h3; exact h3.elim
            | some dz =>
              simp only [py', pz] at h3
              cases gz' : g' dy' dz with
              | none => rw [gz'] at h3; exact h3.elim
              | some z =>
                rw [gz'] at h3
                refine hg' H4 _ y w dy' dz z Q s4.si ?_ ?_ gz' fun u' H' s5 => h3 u' H' ⟨s4.len, ?_⟩ trivial
                · exact mem_peek (e := e3) (σ := σ) o2 (fun p hp => by simp [hp]) (fun p hp => by simp [hp]) py'
                · exact mem_peek (e := e3) (σ := σ) o3 (fun p hp => by simp [hp]) (fun p hp => by simp [hp]) pz
                · exact SI.mid (A := [(z, some u')]) (B := rc.ent w ++ (rb.ent y ++ ra.ent x)) (L := K ++ e3.zip σ) (by simpa using s5)
      · rename_i gz
        refine hg H2 _ x y dx dy _ _ s2.si m1 m2 gz fun u H3 s3 => ⟨false, (s3.pk).atm, ?_⟩
        rw [if_neg Bool.false_ne_true]
        refine h2 _ H3 ⟨s2.len, SI.atm ?_ nr_bl⟩ trivial
        exact SI.drops (M := rb.ent y ++ ra.ent x) (by simpa using s3.drop)
      · exact h2.elim
theorem ej_ch (o : OpR X (compareOp op) r ∧ Op2 r g) (o' : OpR X (compareOp op') r' ∧ Op2 r' g') (ha : EJ X W a fa) (hb : EJ X W b fb) (hc : EJ X W c fc) (hm : lastMarks [op, op'] [b, c] = false := by with_unfolding_all rfl) : EJ X W (.Compare a [op, op'] [b, c] pos) (eCh g g' fa fb fc) := by
  obtain ⟨ta, pa, ka⟩ := ha
  obtain ⟨tb, pb, kb⟩ := hb
  obtain ⟨tc, pc, kc⟩ := hc
  exact ⟨_, pe_chain o.1 o'.1 pa pb pc hm, eok_ch o.2 o'.2 ka kb kc⟩
theorem tj_ch (o : OpR X (compareOp op) r ∧ Op2 r g) (o' : OpR X (compareOp op') r' ∧ Op2 r' g') (ha : EJ X W a fa) (hb : EJ X W b fb) (hc : EJ X W c fc) (hm : lastMarks [op, op'] [b, c] = false := by with_unfolding_all rfl) : TJ X W (.Compare a [op, op'] [b, c] pos) (tBl (eCh g g' fa fb fc)) := by
  obtain ⟨ta, pa, ka⟩ := ha
  obtain ⟨tb, pb, kb⟩ := hb
  obtain ⟨tc, pc, kc⟩ := hc
  exact ⟨_, pt_chain o.1 o'.1 pa pb pc hm, tok_b (eok_ch o.2 o'.2 ka kb kc)⟩
end
end VS
set_option Elab.async false
set_option linter.all false
set_option maxRecDepth 100000
namespace VS
open PySem L2
variable {X : Cx} {W : WX}

/-! ### subscripts -/
theorem SI.kidLm {H : Hp} {own : Bool} {ds : List D} {v : V} {L : List Ent} (h : SI H L) (m : (.lst own ds, some v) ∈ L) {i : Nat} {d : D} (e : ds[i]? = some d) (f : fzn d = true) :
    ∃ a vs w, v = .ref a ∧ H a = some (.lst vs) ∧ ds.length = vs.length ∧ vs[i]? = some w ∧ SI H ((d, some w) :: L) := by
  obtain ⟨L', h', p⟩ := h.mem m
  obtain ⟨a, vs, ev, ha, pk⟩ := h'.pk.lst
  subst ev
  obtain ⟨w, e1, s1⟩ := h'.kidL ha e f
  exact ⟨a, vs, w, rfl, ha, pk.1, e1, s1.perm (p.symm.cons _)⟩
theorem SI.kidTm {H : Hp} {ds : List D} {v : V} {L : List Ent} (h : SI H L) (m : (.tup ds, some v) ∈ L) {i : Nat} {d : D} (e : ds[i]? = some d) (f : fzn d = true) :
    ∃ a vs w, v = .ref a ∧ H a = some (.tup vs) ∧ ds.length = vs.length ∧ vs[i]? = some w ∧ SI H ((d, some w) :: L) := by
  obtain ⟨L', h', p⟩ := h.mem m
  obtain ⟨a, vs, ev, ha, pk⟩ := h'.pk.tup
  subst ev
  obtain ⟨w, e1, s1⟩ := h'.kidT ha e f
  exact ⟨a, vs, w, rfl, ha, pk.1, e1, s1.perm (p.symm.cons _)⟩
def gIx : D → D → Option D
  | .lst _ ds, .atm (.int i) => match atI ds i with
    | some d => if fzn d then some d else none
    | none => none
  | .tup ds, .atm (.int i) => match atI ds i with
    | some d => if fzn d then some d else none
    | none => none
  | .scr xs, .atm (.int i) => match atI xs i with
    | some n => some (.atm (.int n))
    | none => none
  | _, _ => none
theorem atI_ix {α : Type} {ds : List α} {i : Int} {d : α} (h : atI ds i = some d) : ∃ j, ixN ds.length i = some j ∧ ds[j]? = some d := by
  unfold atI at h
  cases e : ixN ds.length i with
  | none => rw [e] at h; cases h
  | some j => rw [e] at h; exact ⟨j, rfl, h⟩
theorem ix_atI {α : Type} {ds : List α} {i : Int} {d : α} {n j : Nat} (hn : n = ds.length) (h : ixN n i = some j) (k : ds[j]? = some d) : atI ds i = some d := by
  subst hn
  unfold atI
  rw [h]; exact k
def rIxA (Kf : PySem.W.Frag) : R2 := fun x y H Q => rIxL Kf x y H Q ∨ rIxT Kf x y H Q
theorem op2_ix (Kf : PySem.W.Frag) : Op2 (rIxA Kf) gIx := by
  intro H L x y dx dy z Q s mx my hz q
  unfold gIx at hz
  split at hz
  · rename_i own ds i
    split at hz
    · rename_i d hd
      split at hz
      · rename_i f
        cases hz
        obtain ⟨j, e1, e2⟩ := atI_ix hd
        obtain ⟨a, vs, w, ev, ha, hl, hw, s1⟩ := s.kidLm mx e2 f
        exact .inl ⟨a, vs, i, w, ev, (s.pkm my).atm, .inl (.inl ha), ix_atI hl e1 hw, q w H s1⟩
      · cases hz
    · cases hz
  · rename_i ds i
    split at hz
    · rename_i d hd
      split at hz
      · rename_i f
        cases hz
        obtain ⟨j, e1, e2⟩ := atI_ix hd
        obtain ⟨a, vs, w, ev, ha, hl, hw, s1⟩ := s.kidTm mx e2 f
        exact .inr ⟨a, vs, i, w, ev, (s.pkm my).atm, .inl (.inl ha), ix_atI hl e1 hw, q w H s1⟩
      · cases hz
    · cases hz
  · rename_i xs i
    split at hz
    · rename_i n hn
      cases hz
      obtain ⟨j, e1, e2⟩ := atI_ix hn
      obtain ⟨a, ev, ha⟩ := (s.pkm mx).scr
      exact .inl ⟨a, _, i, .int n, ev, (s.pkm my).atm, .inl ha, ix_atI (by simp) e1 (by simp [e2]), q _ H (s.atm nr_int)⟩
    · cases hz
  · cases hz
theorem ej_ix {a b : Expr} {fa fb : Ev} {pos : Pos} (ha : EJ X W a fa) (hb : EJ X W b fb) (hs : PlainIx b := by intro _ _; rfl) : EJ X W (.Subscript a b pos) (eOp gIx fa fb) := by
  obtain ⟨ta, pa, ka⟩ := ha
  obtain ⟨tb, pb, kb⟩ := hb
  exact ⟨_, pe_ix (IxR.or ix_list ix_tup) pa pb hs, eok_op (op2_ix X.K) ka kb⟩

/-! ### slices -/
def cutX {α : Type} (xs : List α) (lo hi : Option Int) : List α := (xs.drop (HT.sIx xs.length 0 lo)).take (HT.sIx xs.length xs.length hi - HT.sIx xs.length 0 lo)
theorem cutX_sub {α : Type} (xs : List α) (lo hi : Option Int) : (cutX xs lo hi).Sublist xs := (List.take_sublist _ _).trans (List.drop_sublist _ _)
theorem cutX_zip {α β : Type} (xs : List α) (ys : List β) (lo hi : Option Int) (e : xs.length = ys.length) : (cutX xs lo hi).zip (cutX ys lo hi) = cutX (xs.zip ys) lo hi := by
  unfold cutX
  have l : (xs.zip ys).length = xs.length := by simp [e]
  rw [l, ← e, List.zip_eq_zipWith, List.zip_eq_zipWith, List.drop_zipWith, List.take_zipWith]
theorem cutX_length {α β : Type} (xs : List α) (ys : List β) (lo hi : Option Int) (e : xs.length = ys.length) : (cutX xs lo hi).length = (cutX ys lo hi).length := by
  unfold cutX
  rw [List.length_take, List.length_take, List.length_drop, List.length_drop, e]
theorem cutX_map {α β : Type} (f : α → β) (xs : List α) (lo hi : Option Int) : cutX (xs.map f) lo hi = (cutX xs lo hi).map f := by
  unfold cutX
  rw [List.length_map, List.map_take, List.map_drop]
abbrev Ov := EnvD → M (Option Int)
def OOk (W : WX) (t : TO) (f : Ov) : Prop := ∀ env σ K H Q, Stt H K env σ → MPost W K σ (fun o e => ∀ H', Stt H' K e σ → Q o H') (f env) → t σ H Q
structure OJ (X : Cx) (W : WX) (e : Option Expr) (f : Ov) : Prop where
  ex : ∃ t, PO X e t ∧ OOk W t f
def oNone : Ov := fun e => .ok none e
def oSome (f : Ev) : Ov := fun e => (f e).bind fun r e1 => match peek r e1 with
  | some (.atm (.int i)) => .ok (some i) e1
  | _ => .no
theorem oj_none : OJ X W none oNone := ⟨_, po_none, fun env σ K H Q s h => h H s⟩
theorem oj_some {e : Expr} {f : Ev} (h : EJ X W e f) : OJ X W (some e) (oSome f) := by
  obtain ⟨t, p, k⟩ := h
  refine ⟨_, po_some p, fun env σ K H Q s h => k env σ K H _ s (MPost.mono (MPost.bind0 h) fun r e1 h1 v H1 s1 o1 => ?_)⟩
  cases p : peek r e1 with
  | none => simp only [p] at h1; exact h1.elim
  | some d =>
    simp only [p] at h1
    have m := mem_peek (L := r.ent v ++ K ++ e1.zip σ) (e := e1) (σ := σ) o1 (fun p hp => by simp [hp]) (fun p hp => by simp [hp]) p
    have pk := s1.si.pkm m
    split at h1
    · rename_i i hi
      cases hi
      exact ⟨i, pk.atm, h1 H1 s1.drops⟩
    · exact h1.elim
def gSl (lo hi : Option Int) : D → Option D
  | .lst _ ds => if fzns ds then some (.lst true (cutX ds lo hi)) else none
  | .scr xs => some (.lst true ((cutX xs lo hi).map fun n => .atm (.int n)))
  | _ => none
def eSl (fa : Ev) (fl fh : Ov) : Ev := fun e => (fa e).bind fun r e1 => (fl e1).bind fun lo e2 => (fh e2).bind fun hi e3 => match peek r e3 with
  | some d => (lift (gSl lo hi d) e3).bind fun z e4 => .ok (.val z) e4
  | none => .no
theorem SI.ints {H : Hp} {L : List Ent} (s : SI H L) : ∀ ns : List Int, SI H ((ns.map fun n => D.atm (.int n)).zip ((ns.map V.int).map some) ++ L)
  | [] => s
  | n :: ns => (SI.ints s ns).atm nr_int
theorem ej_sl {a : Expr} {lo hi : Option Expr} {fa : Ev} {fl fh : Ov} {pos p2 : Pos} (ha : EJ X W a fa) (hl : OJ X W lo fl) (hh : OJ X W hi fh) : EJ X W (.Subscript a (.Slice lo hi none p2) pos) (eSl fa fl fh) := by
  obtain ⟨ta, pa, ka⟩ := ha
  obtain ⟨tl, pl, kl⟩ := hl
  obtain ⟨th, ph, kh⟩ := hh
  refine ⟨_, pe_slice sl_list pa pl ph, fun env σ K H Q s h => ?_⟩
  refine ka env σ K H _ s (MPost.mono (MPost.bind0 h) fun r e1 h1 v H1 s1 o1 => ?_)
  refine kl e1 σ _ H1 _ s1 (MPost.mono (MPost.bind (K0 := r.ent v) h1) fun lo e2 h2 H2 s2 => ?_)
  refine kh e2 σ _ H2 _ s2 (MPost.mono (MPost.bind (K0 := r.ent v) h2) fun hi e3 h3 H3 s3 => ?_)
  cases p : peek r e3 with
  | none => simp only [p] at h3; exact h3.elim
  | some d =>
    simp only [p] at h3
    have m := mem_peek (L := r.ent v ++ K ++ e3.zip σ) (e := e3) (σ := σ) o1 (fun p hp => by simp [hp]) (fun p hp => by simp [hp]) p
    cases gz : gSl lo hi d with
    | none => rw [gz] at h3; exact h3.elim
    | some z =>
      rw [gz] at h3
      have fin : ∀ u H', SI H' ((z, some u) :: (r.ent v ++ K ++ e3.zip σ)) → Q u H' := fun u H' s4 =>
        h3 u H' ⟨s3.len, SI.mid (A := [(z, some u)]) (B := r.ent v) (L := K ++ e3.zip σ) (by simpa using s4)⟩ trivial
      unfold gSl at gz
      split at gz
      · rename_i own ds
        split at gz
        · rename_i f
          cases gz
          obtain ⟨b, vs, ev, hb, hl, s4⟩ := s3.si.kidsL m f
          refine ⟨b, vs, ev, .inl (.inl hb), fun q hq => fin _ _ (SI.newL (vs := cutV vs lo hi) ?_ (cutX_length ds vs lo hi hl) hq)⟩
          have e1 : (cutX ds lo hi).zip ((cutV vs lo hi).map some) = cutX (ds.zip (vs.map some)) lo hi := by
            show (cutX ds lo hi).zip ((cutX vs lo hi).map some) = _
            rw [← cutX_map, cutX_zip ds (vs.map some) lo hi (by simpa using hl)]
          rw [e1]
          exact s4.sub (cutX_sub _ lo hi)
        · cases gz
      · rename_i xs
        cases gz
        obtain ⟨b, ev, hb⟩ := (s3.si.pkm m).scr
        refine ⟨b, _, ev, .inl hb, fun q hq => fin _ _ ?_⟩
        have e1 : cutV (xs.map V.int) lo hi = (cutX xs lo hi).map V.int := cutX_map V.int xs lo hi
        rw [e1]
        exact SI.newL (s3.si.ints _) (by simp) hq
      · cases gz

/-! ### built-ins by name -/
def eCB (g : List D → Option D) (fa : Av) : Ev := fun e => (fa e).bind fun rs e1 => match peeks rs e1 with
  | some ds => (lift (g ds) e1).bind fun z e2 => .ok (.val z) e2
  | none => .no
theorem eok_cb {r : List V → Hp → VK → Prop} {g : List D → Option D} {t : TA} {f : Av} (hg : OpN r g) (ha : AOk W t f) : EOk W (tCB r t) (eCB g f) := by
  intro env σ K H Q s h
  refine ha env σ K H _ s (MPost.mono (MPost.bind0 h) fun rs e1 h1 vs H1 s1 o1 => ?_)
  cases p : peeks rs e1 with
  | none => simp only [p] at h1; exact h1.elim
  | some ds =>
    simp only [p] at h1
    cases gz : g ds with
    | none => rw [gz] at h1; exact h1.elim
    | some z =>
      rw [gz] at h1
      refine hg H1 _ vs ds z Q s1.si (mems_of (e := e1) (σ := σ) (fun p hp => by simp [hp]) p o1 fun p hp => by simp [hp]) gz fun u H' s3 => h1 u H' ⟨s1.len, ?_⟩ trivial
      exact SI.mid (A := [(z, some u)]) (B := ents rs vs) (L := K ++ e1.zip σ) (by simpa using s3)
section
variable {id T : String} {r : List V → Hp → VK → Prop} {g : List D → Option D} {x : Str} {e : Expr} {es : List Expr} {f : Av} {p pos : Pos}
theorem ej_cb (o : CallR X (.builtin id) r ∧ OpN r g) (hg : Gl X x) (hm : X.mg x = none) (hv : bootBuiltins x = some (.builtin id)) (ha : AJ X W (e :: es) f) (hn : x ≠ "__name__" := by decide) (hdb : (x == ("__debug__" : Str)) = false := by decide)
    (he : starEach (e :: es) X.env = (false, eval e X.env) :: starEach es X.env := by rfl) (hpl : (backTo pos (starEach es X.env)).any (·.1) = false := by rfl) : EJ X W (.Call (.Name x p) (e :: es) [] pos) (eCB g f) := by
  obtain ⟨t, q, k⟩ := ha
  exact ⟨_, pe_callB o.1 hg hm hv q hn hdb he hpl, eok_cb o.2 k⟩
theorem ej_ct (o : CallR X (.type T) r ∧ OpN r g) (hg : Gl X x) (hm : X.mg x = none) (hv : bootBuiltins x = some (.type T)) (ha : AJ X W (e :: es) f) (hn : x ≠ "__name__" := by decide) (hdb : (x == ("__debug__" : Str)) = false := by decide)
    (he : starEach (e :: es) X.env = (false, eval e X.env) :: starEach es X.env := by rfl) (hpl : (backTo pos (starEach es X.env)).any (·.1) = false := by rfl) : EJ X W (.Call (.Name x p) (e :: es) [] pos) (eCB g f) := by
  obtain ⟨t, q, k⟩ := ha
  exact ⟨_, pe_callTy o.1 hg hm hv q hn hdb he hpl, eok_cb o.2 k⟩
end
theorem mems1 {L : List Ent} {d : D} {vs : List V} (h : Mems L [d] vs) : ∃ v, vs = [v] ∧ (d, some v) ∈ L := by
  cases vs with
  | nil => exact h.elim
  | cons v vs => cases vs with
    | nil => exact ⟨v, rfl, h.1⟩
    | cons w vs => exact h.2.elim
theorem mems2 {L : List Ent} {d d' : D} {vs : List V} (h : Mems L [d, d'] vs) : ∃ v v', vs = [v, v'] ∧ (d, some v) ∈ L ∧ (d', some v') ∈ L := by
  cases vs with
  | nil => exact h.elim
  | cons v vs =>
    obtain ⟨v', e, m⟩ := mems1 (L := L) (d := d') (vs := vs) h.2
    subst e
    exact ⟨v, v', rfl, h.1, m⟩
def gLen : List D → Option D
  | [.lst _ ds] => some (.atm (.int ds.length))
  | [.tup ds] => some (.atm (.int ds.length))
  | [.scr xs] => some (.atm (.int xs.length))
  | _ => none
theorem b_len : CallR X (.builtin "len") (fun xs H Q => ∃ p ys, xs = [.ref p] ∧ (SqL X.K H p ys ∨ SqT X.K H p ys) ∧ Q (.int ys.length) H) ∧ OpN (fun xs H Q => ∃ p ys, xs = [.ref p] ∧ (SqL X.K H p ys ∨ SqT X.K H p ys) ∧ Q (.int ys.length) H) gLen := by
  refine ⟨call_len_seq, fun H L xs ds z Q s m hz q => ?_⟩
  unfold gLen at hz
  split at hz
  · rename_i own ds
    cases hz
    obtain ⟨v, e, mv⟩ := mems1 m
    obtain ⟨a, vs, ev, ha, pk⟩ := (s.pkm mv).lst
    subst e; subst ev
    exact ⟨a, vs, rfl, .inl (.inl (.inl ha)), by rw [← pk.1]; exact q _ H (s.atm nr_int)⟩
  · rename_i ds
    cases hz
    obtain ⟨v, e, mv⟩ := mems1 m
    obtain ⟨a, vs, ev, ha, pk⟩ := (s.pkm mv).tup
    subst e; subst ev
    exact ⟨a, vs, rfl, .inr (.inl (.inl ha)), by rw [← pk.1]; exact q _ H (s.atm nr_int)⟩
  · rename_i xs
    cases hz
    obtain ⟨v, e, mv⟩ := mems1 m
    obtain ⟨a, ev, ha⟩ := (s.pkm mv).scr
    subst e; subst ev
    exact ⟨a, _, rfl, .inl (.inl ha), by rw [List.length_map]; exact q _ H (s.atm nr_int)⟩
  · cases hz
def gList : List D → Option D
  | [.lst _ ds] => if fzns ds then some (.lst true ds) else none
  | [.tup ds] => if fzns ds then some (.lst true ds) else none
  | _ => none
theorem b_list : CallR X (.type "list") (fun xs H Q => ∃ p ys, xs = [.ref p] ∧ (SqL X.K H p ys ∨ SqT X.K H p ys) ∧ ∀ l, H l = none → Q (.ref l) (upd H l (.lst ys))) ∧ OpN (fun xs H Q => ∃ p ys, xs = [.ref p] ∧ (SqL X.K H p ys ∨ SqT X.K H p ys) ∧ ∀ l, H l = none → Q (.ref l) (upd H l (.lst ys))) gList := by
  refine ⟨call_list_of, fun H L xs ds z Q s m hz q => ?_⟩
  unfold gList at hz
  split at hz
  · rename_i own ds
    split at hz
    · rename_i f
      cases hz
      obtain ⟨v, e, mv⟩ := mems1 m
      obtain ⟨a, vs, ev, ha, hl, s1⟩ := s.kidsL mv f
      subst e; subst ev
      exact ⟨a, vs, rfl, .inl (.inl (.inl ha)), fun l hl' => q _ _ (SI.newL s1 hl hl')⟩
    · cases hz
  · rename_i ds
    split at hz
    · rename_i f
      cases hz
      obtain ⟨v, e, mv⟩ := mems1 m
      obtain ⟨a, vs, ev, ha, hl, s1⟩ := s.kidsT mv f
      subst e; subst ev
      exact ⟨a, vs, rfl, .inr (.inl (.inl ha)), fun l hl' => q _ _ (SI.newL s1 hl hl')⟩
    · cases hz
  · cases hz
def gTuple : List D → Option D
  | [.lst _ ds] => if fzns ds then some (.tup ds) else none
  | [.tup ds] => if fzns ds then some (.tup ds) else none
  | _ => none
theorem b_tuple : CallR X (.type "tuple") (fun xs H Q => ∃ p ys, xs = [.ref p] ∧ ((SqL X.K H p ys ∧ ∀ l, H l = none → Q (.ref l) (upd H l (.tup ys))) ∨ (SqT X.K H p ys ∧ Q (.ref p) H))) ∧ OpN (fun xs H Q => ∃ p ys, xs = [.ref p] ∧ ((SqL X.K H p ys ∧ ∀ l, H l = none → Q (.ref l) (upd H l (.tup ys))) ∨ (SqT X.K H p ys ∧ Q (.ref p) H))) gTuple := by
  refine ⟨call_tuple_of, fun H L xs ds z Q s m hz q => ?_⟩
  unfold gTuple at hz
  split at hz
  · rename_i own ds
    split at hz
    · rename_i f
      cases hz
      obtain ⟨v, e, mv⟩ := mems1 m
      obtain ⟨a, vs, ev, ha, hl, s1⟩ := s.kidsL mv f
      subst e; subst ev
      exact ⟨a, vs, rfl, .inl ⟨.inl (.inl ha), fun l hl' => q _ _ (SI.newT s1 hl hl')⟩⟩
    · cases hz
  · rename_i ds
    split at hz
    · rename_i f
      cases hz
      obtain ⟨v, e, mv⟩ := mems1 m
      obtain ⟨L', s1, p⟩ := s.mem mv
      obtain ⟨a, vs, ev, ha, pk⟩ := s1.pk.tup
      subst e; subst ev
      have s2 := s1.dup (by simpa [fzn] using f)
      exact ⟨a, vs, rfl, .inr ⟨.inl (.inl ha), q _ _ (s2.perm (p.symm.cons _))⟩⟩
    · cases hz
  · cases hz
def gMax : List D → Option D
  | [.atm (.int i), .atm (.int j)] => some (.atm (.int (if j > i then j else i)))
  | _ => none
def gMin : List D → Option D
  | [.atm (.int i), .atm (.int j)] => some (.atm (.int (if j < i then j else i)))
  | _ => none
theorem b_max2 (hc : X.calm = true) : CallR X (.builtin "max") (fun xs H Q => ∃ i j, xs = [.int i, .int j] ∧ Q (.int (if j > i then j else i)) H) ∧ OpN (fun xs H Q => ∃ i j, xs = [.int i, .int j] ∧ Q (.int (if j > i then j else i)) H) gMax := by
  refine ⟨call_max2 hc, fun H L xs ds z Q s m hz q => ?_⟩
  unfold gMax at hz
  split at hz
  · rename_i i j
    cases hz
    obtain ⟨v, v', e, m1, m2⟩ := mems2 m
    have e1 := (s.pkm m1).atm
    have e2 := (s.pkm m2).atm
    subst e; subst e1; subst e2
    exact ⟨i, j, rfl, q _ H (s.atm nr_int)⟩
  · cases hz
theorem b_min2 (hc : X.calm = true) : CallR X (.builtin "min") (fun xs H Q => ∃ i j, xs = [.int i, .int j] ∧ Q (.int (if j < i then j else i)) H) ∧ OpN (fun xs H Q => ∃ i j, xs = [.int i, .int j] ∧ Q (.int (if j < i then j else i)) H) gMin := by
  refine ⟨call_min2 hc, fun H L xs ds z Q s m hz q => ?_⟩
  unfold gMin at hz
  split at hz
  · rename_i i j
    cases hz
    obtain ⟨v, v', e, m1, m2⟩ := mems2 m
    have e1 := (s.pkm m1).atm
    have e2 := (s.pkm m2).atm
    subst e; subst e1; subst e2
    exact ⟨i, j, rfl, q _ H (s.atm nr_int)⟩
  · cases hz
def asInts : List D → Option (List Int)
  | [] => some []
  | .atm (.int i) :: ds => match asInts ds with
    | some ns => some (i :: ns)
    | none => none
  | _ => none
theorem asInts_eq : ∀ {ds : List D} {ns : List Int}, asInts ds = some ns → ds = ns.map fun n => .atm (.int n)
  | [], ns, h => by cases h; rfl
  | d :: ds, ns, h => by
    unfold asInts at h
    split at h
    · rename_i e; cases e
    · rename_i i ds' e
      cases e
      split at h
      · rename_i ms e2
        cases h
        rw [asInts_eq e2]; rfl
      · cases h
    · cases h
theorem pkl_ints {H : Hp} {ns : List Int} {vs : List V} (h : PkL H (ns.map fun n => D.atm (.int n)) vs) : vs = ns.map V.int := by
  apply List.ext_getElem?
  intro i
  cases e : ns[i]? with
  | none =>
    have : ns.length ≤ i := List.getElem?_eq_none_iff.mp e
    have l := h.1
    rw [List.length_map] at l
    rw [List.getElem?_eq_none (by omega), List.getElem?_eq_none (by simpa using this)]
  | some n =>
    obtain ⟨v, e1, pk⟩ := h.2 i (.atm (.int n)) (by simp [e])
    rw [e1, pk.atm]
    simp [e]
def maxL : List Int → Int
  | [] => 0
  | [n] => n
  | n :: ns => max n (maxL ns)
def minL : List Int → Int
  | [] => 0
  | [n] => n
  | n :: ns => min n (minL ns)
theorem maxL_ge : ∀ {ns : List Int} {y : Int}, y ∈ ns → y ≤ maxL ns
  | [n], y, h => by
    rcases List.mem_singleton.mp h with rfl
    exact Int.le_refl _
  | n :: m :: ns, y, h => by
    show y ≤ max n (maxL (m :: ns))
    rcases List.mem_cons.mp h with rfl | h
    · exact Int.le_max_left _ _
    · exact Int.le_trans (maxL_ge h) (Int.le_max_right _ _)
theorem maxL_mem : ∀ {ns : List Int}, 0 < ns.length → maxL ns ∈ ns
  | [n], _ => List.mem_singleton.mpr rfl
  | n :: m :: ns, _ => by
    show max n (maxL (m :: ns)) ∈ _
    rcases Int.le_total n (maxL (m :: ns)) with c | c
    · rw [Int.max_eq_right c]; exact List.mem_cons_of_mem _ (maxL_mem (by simp))
    · rw [Int.max_eq_left c]; exact List.mem_cons_self
def gMaxL : List D → Option D
  | [.lst _ ds] => match asInts ds with
    | some (n :: ns) => some (.atm (.int (maxL (n :: ns))))
    | _ => none
  | _ => none
theorem b_maxL (hc : X.calm = true) : CallR X (.builtin "max") (rMax X.K) ∧ OpN (rMax X.K) gMaxL := by
  refine ⟨cr_max hc, fun H L xs ds z Q s m hz q => ?_⟩
  unfold gMaxL at hz
  split at hz
  · rename_i own ds
    split at hz
    · rename_i n ns e
      cases hz
      obtain ⟨v, ex, mv⟩ := mems1 m
      obtain ⟨a, vs, ev, ha, pk⟩ := (s.pkm mv).lst
      subst ex; subst ev
      have := asInts_eq e
      subst this
      have ev := pkl_ints pk
      subst ev
      refine ⟨a, n :: ns, rfl, .inl (.inl ha), by simp, fun k hk hle => ?_⟩
      have : k = maxL (n :: ns) := Int.le_antisymm (maxL_ge hk) (hle _ (maxL_mem (by simp)))
      rw [this]
      exact q _ H (s.atm nr_int)
    · cases hz
  · cases hz
def gInt : List D → Option D
  | [.atm (.int i)] => some (.atm (.int i))
  | [.atm (.bl b)] => some (.atm (.int (if b then 1 else 0)))
  | _ => none
theorem b_int : CallR X (.type "int") (fun xs H Q => (∃ i, xs = [.int i] ∧ Q (.int i) H) ∨ ∃ k, xs = [.bl k] ∧ Q (.int (if k then 1 else 0)) H) ∧ OpN (fun xs H Q => (∃ i, xs = [.int i] ∧ Q (.int i) H) ∨ ∃ k, xs = [.bl k] ∧ Q (.int (if k then 1 else 0)) H) gInt := by
  refine ⟨call_int1, fun H L xs ds z Q s m hz q => ?_⟩
  unfold gInt at hz
  split at hz
  · cases hz
    obtain ⟨v, ex, mv⟩ := mems1 m
    have e := (s.pkm mv).atm
    subst ex; subst e
    exact .inl ⟨_, rfl, q _ H (s.atm nr_int)⟩
  · cases hz
    obtain ⟨v, ex, mv⟩ := mems1 m
    have e := (s.pkm mv).atm
    subst ex; subst e
    exact .inr ⟨_, rfl, q _ H (s.atm nr_int)⟩
  · cases hz
def gAbs : List D → Option D
  | [.atm (.int i)] => some (.atm (.int (if i < 0 then -i else i)))
  | _ => none
theorem b_abs : CallR X (.builtin "abs") (fun xs H Q => ∃ i, xs = [.int i] ∧ Q (.int (if i < 0 then -i else i)) H) ∧ OpN (fun xs H Q => ∃ i, xs = [.int i] ∧ Q (.int (if i < 0 then -i else i)) H) gAbs := by
  refine ⟨call_abs, fun H L xs ds z Q s m hz q => ?_⟩
  unfold gAbs at hz
  split at hz
  · cases hz
    obtain ⟨v, ex, mv⟩ := mems1 m
    have e := (s.pkm mv).atm
    subst ex; subst e
    exact ⟨_, rfl, q _ H (s.atm nr_int)⟩
  · cases hz
end VS
set_option Elab.async false
set_option linter.all false
set_option maxRecDepth 100000
namespace VS
open PySem L2
variable {X : Cx} {W : WX} {P : List Nat}

inductive Out where
  | nx
  | rt (d : D)
  | bk
  | ct
abbrev Sv := EnvD → M Out
def Pin (P : List Nat) (σ σ' : St) : Prop := σ'.length = σ.length ∧ ∀ j ∈ P, σ'[j]? = σ[j]?
theorem Pin.refl {P : List Nat} {σ : St} : Pin P σ σ := ⟨rfl, fun _ _ => rfl⟩
theorem Pin.trans {P : List Nat} {σ σ' σ'' : St} (h : Pin P σ σ') (k : Pin P σ' σ'') : Pin P σ σ'' := ⟨k.1.trans h.1, fun j hj => (k.2 j hj).trans (h.2 j hj)⟩
def OPost (P : List Nat) (K : List Ent) (σ : St) (D : Ends) (e : EnvD) : Out → Prop
  | .nx => ∀ σ' H', Pin P σ σ' → Stt H' K e σ' → D.nx σ' H'
  | .rt d => ∀ v σ' H', Pin P σ σ' → Stt H' ((d, some v) :: K) e σ' → D.rt v H'
  | .bk => ∀ σ' H', Pin P σ σ' → Stt H' K e σ' → D.bk σ' H'
  | .ct => ∀ σ' H', Pin P σ σ' → Stt H' K e σ' → D.ct σ' H'
def SPost (W : WX) (P : List Nat) (K : List Ent) (σ : St) (D : Ends) : M Out → Prop
  | .no => False
  | .er x e => ∀ σ' H' da, Pin P σ σ' → Stt H' ((.xdt x.ns x.ds, some (.ref da)) :: K) e σ' → W (.ref x.c) (some da) σ' H'
  | .ok o e => OPost P K σ D e o
def SOk (W : WX) (P : List Nat) (t : TS) (f : Sv) : Prop := ∀ env σ K H D, Stt H K env σ → SPost W P K σ D (f env) → t D σ H
structure SJ (X : Cx) (W : WX) (P : List Nat) (s : Stmt) (f : Sv) : Prop where
  ex : ∃ t, PS X s t ∧ SOk W P t f
structure BJ (X : Cx) (W : WX) (P : List Nat) (s : List Stmt) (f : Sv) : Prop where
  ex : ∃ t, PSs X s t ∧ SOk W P t f
/-- an expression ahead of what follows -/
theorem SPost.bind {α : Type} {K K0 : List Ent} {σ : St} {Dn : Ends} {m : M α} {k : α → EnvD → M Out} (h : SPost W P K σ Dn (m.bind k)) :
    MPost W (K0 ++ K) σ (fun a e => SPost W P K σ Dn (k a e)) m := by
  cases m with
  | no => exact h
  | er x e => exact fun H' da s => h σ H' da Pin.refl s.mid
  | ok a e => exact h
theorem SPost.bind0 {α : Type} {K : List Ent} {σ : St} {Dn : Ends} {m : M α} {k : α → EnvD → M Out} (h : SPost W P K σ Dn (m.bind k)) :
    MPost W K σ (fun a e => SPost W P K σ Dn (k a e)) m := SPost.bind (K0 := []) h
theorem OPost.pin {K : List Ent} {σ σ' : St} {Dn : Ends} {e : EnvD} {o : Out} (h : OPost P K σ Dn e o) (p : Pin P σ σ') : OPost P K σ' Dn e o := by
  cases o with
  | nx => exact fun σ2 H' q s => h σ2 H' (p.trans q) s
  | rt d => exact fun v σ2 H' q s => h v σ2 H' (p.trans q) s
  | bk => exact fun σ2 H' q s => h σ2 H' (p.trans q) s
  | ct => exact fun σ2 H' q s => h σ2 H' (p.trans q) s
theorem SPost.pin {K : List Ent} {σ σ' : St} {Dn : Ends} {m : M Out} (h : SPost W P K σ Dn m) (p : Pin P σ σ') : SPost W P K σ' Dn m := by
  cases m with
  | no => exact h
  | er x e => exact fun σ2 H' da q s => h σ2 H' da (p.trans q) s
  | ok o e => exact OPost.pin h p

/-! ### blocks -/
def sSkip : Sv := fun e => .ok .nx e
def sSeq (f g : Sv) : Sv := fun e => (f e).bind fun o e1 => match o with
  | .nx => g e1
  | o => .ok o e1
theorem sok_seq {t u : TS} {f g : Sv} (h : SOk W P t f) (k : SOk W P u g) : SOk W P (tSeq t u) (sSeq f g) := by
  intro env σ K H Dn s m
  refine h env σ K H _ s ?_
  unfold sSeq at m
  cases e : f env with
  | no => rw [e] at m; exact m
  | er x e1 => rw [e] at m; exact m
  | ok o e1 =>
    rw [e] at m
    cases o with
    | nx => exact fun σ' H' p s' => k e1 σ' K H' Dn s' (SPost.pin m p)
    | rt d => exact m
    | bk => exact m
    | ct => exact m
theorem bj_nil : BJ X W P [] sSkip := ⟨_, pss_nil, fun env σ K H Dn s m => m σ H Pin.refl s⟩
theorem bj_cons {s : Stmt} {r : List Stmt} {f g : Sv} (h : SJ X W P s f) (k : BJ X W P r g) : BJ X W P (s :: r) (sSeq f g) := by
  obtain ⟨t, p, q⟩ := h
  obtain ⟨u, p', q'⟩ := k
  exact ⟨_, pss_cons p p', sok_seq q q'⟩
theorem bj_one {s : Stmt} {f : Sv} (h : SJ X W P s f) : BJ X W P [s] f := by
  obtain ⟨t, p, q⟩ := h
  exact ⟨_, pss_one p, q⟩
theorem sj_doc {x j pos pos'} : SJ X W P (.Expr (.Constant (.str x) j pos) pos') sSkip := ⟨_, ps_doc, fun env σ K H Dn s m => m σ H Pin.refl s⟩
def sEx (f : Ev) : Sv := fun e => (f e).bind fun _ e1 => .ok .nx e1
theorem sj_ex {e : Expr} {f : Ev} {pos : Pos} (h : EJ X W e f) (hs : swapsWith e none pos.line X.env = pure false := by rfl) : SJ X W P (.Expr e pos) (sEx f) := by
  obtain ⟨t, p, k⟩ := h
  exact ⟨_, ps_expr p hs, fun env σ K H Dn s m => k env σ K H _ s (MPost.mono (SPost.bind0 m) fun r e1 h1 v H1 s1 o1 => h1 σ H1 Pin.refl s1.drops)⟩
def sRt (f : Ev) : Sv := fun e => (f e).bind fun r e1 => match r with
  | .val d => .ok (.rt d) e1
  | .slot _ => .no
theorem sj_rt {e : Expr} {f : Ev} {pos : Pos} (h : EJ X W e f) : SJ X W P (.Return (some e) pos) (sRt f) := by
  obtain ⟨t, p, k⟩ := h
  refine ⟨_, ps_ret p, fun env σ K H Dn s m => k env σ K H _ s (MPost.mono (SPost.bind0 m) fun r e1 h1 v H1 s1 o1 => ?_)⟩
  cases r with
  | val d => exact h1 v σ H1 Pin.refl s1
  | slot i => exact h1.elim
def sRtN : Sv := fun e => .ok (.rt (.atm .non)) e
theorem sj_rtn {pos : Pos} : SJ X W P (.Return none pos) sRtN := ⟨_, ps_retN, fun env σ K H Dn s m => m .non σ H Pin.refl ⟨s.len, s.si.atm (fun _ z => by cases z)⟩⟩
def sBk : Sv := fun e => .ok .bk e
def sCt : Sv := fun e => .ok .ct e
theorem sj_bk {pos : Pos} : SJ X W P (.Break pos) sBk := ⟨_, ps_break, fun env σ K H Dn s m => m σ H Pin.refl s⟩
theorem sj_ct {pos : Pos} : SJ X W P (.Continue pos) sCt := ⟨_, ps_continue, fun env σ K H Dn s m => m σ H Pin.refl s⟩
theorem sj_pass {pos : Pos} : SJ X W P (.Pass pos) sSkip := ⟨_, ps_pass, fun env σ K H Dn s m => m σ H Pin.refl s⟩
def sIf (c : Tv) (f g : Sv) : Sv := fun e => (c e).bind fun b e1 => if b then f e1 else g e1
theorem sj_if {c : Expr} {a b : List Stmt} {fc : Tv} {f g : Sv} {pos : Pos} (hc : TJ X W c fc) (ha : BJ X W P a f) (hb : BJ X W P b g) : SJ X W P (.If c a b pos) (sIf fc f g) := by
  obtain ⟨t, p, k⟩ := hc
  obtain ⟨ta, pa, ka⟩ := ha
  obtain ⟨tb, pb, kb⟩ := hb
  refine ⟨_, ps_if p pa pb, fun env σ K H Dn s m => k env σ K H _ s (MPost.mono (SPost.bind0 m) fun b e1 h1 H1 s1 => ?_)⟩
  cases b with
  | true => exact ka e1 σ K H1 Dn s1 h1
  | false => exact kb e1 σ K H1 Dn s1 h1

/-! ### targets -/
abbrev Gv := D → EnvD → Option EnvD
def GOk (P : List Nat) (t : TG) (g : Gv) : Prop := ∀ env σ K H v d e' Q, Stt H ((d, some v) :: K) env σ → g d env = some e' → (∀ σ' H', Pin P σ σ' → Stt H' K e' σ' → Q σ' H') → t v σ H Q
structure GJ (X : Cx) (P : List Nat) (tg : Expr) (g : Gv) : Prop where
  ex : ∃ t, PG X tg t ∧ GOk P t g
abbrev Gvs := List D → EnvD → Option EnvD
def GsOk (P : List Nat) (t : TGs) (g : Gvs) : Prop := ∀ env σ K H vs ds e' Q, ds.length = vs.length → Stt H (ds.zip (vs.map some) ++ K) env σ → g ds env = some e' → (∀ σ' H', Pin P σ σ' → Stt H' K e' σ' → Q σ' H') → t vs σ H Q
structure GsJ (X : Cx) (P : List Nat) (tgs : List Expr) (g : Gvs) : Prop where
  ex : ∃ t, PGs X tgs t ∧ GsOk P t g
def gN (i : Nat) : Gv := fun d e => if i < e.length then some (e.set i d) else none
theorem pin_set {σ : St} {i : Nat} {o : Option V} (h : i ∉ P) : Pin P σ (σ.set i o) := ⟨List.length_set, fun j hj => by
  rw [List.getElem?_set_ne (fun z => h (by rw [z]; exact hj))]⟩
theorem gj_name {i : Nat} {x : Str} {pos : Pos} (hi' : P.contains i = false) (hN : X.N.Nodup) (hi : X.N[i]? = some x) (hx : Loc X.env.scope x) (hf : X.fn x = true ∨ X.env.scope.names.lookup x = some .local := by first | exact .inl rfl | exact .inr rfl | assumption) : GJ X P (.Name x pos) (gN i) := by
  refine ⟨_, pg_name hN hi hx hf, fun env σ K H v d e' Q s h q => ?_⟩
  unfold gN at h
  split at h
  · rename_i c
    cases h
    exact q _ H (pin_set (fun z => by rw [List.contains_iff_mem.mpr z] at hi'; cases hi')) (s.put c)
  · cases h
def gsNil : Gvs := fun ds e => match ds with
  | [] => some e
  | _ => none
def gsCons (g : Gv) (gs : Gvs) : Gvs := fun ds e => match ds with
  | d :: r => match g d e with
    | some e1 => gs r e1
    | none => none
  | [] => none
theorem gsj_nil : GsJ X P [] gsNil := by
  refine ⟨_, pgs_nil, fun env σ K H vs ds e' Q l s h q => ?_⟩
  cases ds with
  | nil =>
    cases h
    cases vs with
    | nil => exact ⟨rfl, q σ H Pin.refl s⟩
    | cons v vs => cases l
  | cons d ds => cases h
theorem gsj_cons {a : Expr} {r : List Expr} {g : Gv} {gs : Gvs} (h1 : GJ X P a g) (h2 : GsJ X P r gs) (hs : (assignEach (a :: r) X.env).map (·.2) = assign a X.env :: (assignEach r X.env).map (·.2) := by rfl) : GsJ X P (a :: r) (gsCons g gs) := by
  obtain ⟨t, p, k⟩ := h1
  obtain ⟨u, p', k'⟩ := h2
  refine ⟨_, pgs_cons p p' hs, fun env σ K H vs ds e' Q l s h q => ?_⟩
  cases ds with
  | nil => cases h
  | cons d ds => cases vs with
    | nil => cases l
    | cons v vs =>
      unfold gsCons at h
      simp only at h
      split at h
      · rename_i e1 he
        refine ⟨v, vs, rfl, k env σ (ds.zip (vs.map some) ++ K) H v d e1 _ s he fun σ' H' pn s' => ?_⟩
        exact k' e1 σ' K H' vs ds e' Q (by simpa using l) s' h fun σ2 H2 pn2 s2 => q σ2 H2 (pn.trans pn2) s2
      · cases h
/-- a tuple's parts, the tuple dropped -/
theorem SI.openT {H : Hp} {ds : List D} {v : V} {L : List Ent} (h : SI H ((.tup ds, some v) :: L)) : ∃ a vs, v = .ref a ∧ H a = some (.tup vs) ∧ ds.length = vs.length ∧ SI H (ds.zip (vs.map some) ++ L) := by
  obtain ⟨G, F, ⟨F1, F2, ef, r1, r2⟩, nd, gn, l⟩ := h
  unfold Rep at r1
  obtain ⟨b, ws, eb, r3, lo⟩ := r1
  obtain ⟨r4, el⟩ := RepL.of_reps r3
  exact ⟨b, ws, Option.some.inj eb, l _ _ lo, el, G, F, RepL.append.mpr ⟨F1, F2, ef, r4, r2⟩, nd, gn, l⟩
def gT (n : Nat) (gs : Gvs) : Gv := fun d e => match d with
  | .tup ds => if ds.length = n then gs ds e else none
  | _ => none
theorem gj_tup {es : List Expr} {k : _} {pos : Pos} {gs : Gvs} {n : Nat} (hc : X.calm = true) (h : GsJ X P es gs) (hn : (assignEach es X.env).length = n := by rfl) (hst : (assignEach es X.env).findIdx? (·.1) = none := by rfl) : GJ X P (.Tuple es k pos) (gT n gs) := by
  obtain ⟨t, p, q⟩ := h
  refine ⟨_, pg_tup hc p hn hst, fun env σ K H v d e' Q s h qq => ?_⟩
  unfold gT at h
  split at h
  · rename_i ds
    split at h
    · rename_i c
      obtain ⟨a, vs, ev, ha, l, s1⟩ := SI.openT s.si
      refine ⟨a, vs, ev, .inl (.inl ha), by rw [← l]; exact c, q env σ K H vs ds e' Q l ⟨s.len, ?_⟩ h qq⟩
      rw [List.append_assoc]; exact s1
    · cases h
  · cases h
/-- target = e -/
def sAs (g : Gv) (f : Ev) : Sv := fun e => (f e).bind fun r e1 => match r with
  | .val d => match g d e1 with
    | some e2 => .ok .nx e2
    | none => .no
  | .slot _ => .no
theorem sok_as {te : TE} {tg : TG} {f : Ev} {g : Gv} (h : EOk W te f) (k : GOk P tg g) : SOk W P (tAsg te tg) (sAs g f) := by
  intro env σ K H Dn s m
  refine h env σ K H _ s (MPost.mono (SPost.bind0 m) fun r e1 h1 v H1 s1 o1 => ?_)
  cases r with
  | slot i => exact h1.elim
  | val d =>
    simp only at h1
    split at h1
    · rename_i e2 he
      exact k e1 σ K H1 v d e2 Dn.nx s1 he fun σ' H' p s' => h1 σ' H' p s'
    · exact h1.elim
theorem sj_set {i : Nat} {x : Str} {e : Expr} {f : Ev} {pos pos' : Pos} (hi' : P.contains i = false) (hN : X.N.Nodup) (hi : X.N[i]? = some x) (hx : Loc X.env.scope x) (h : EJ X W e f)
    (hs : swapsWith e (some (.Name x pos')) pos.line X.env = pure false := by rfl) (hf : X.fn x = true ∨ X.env.scope.names.lookup x = some .local := by first | exact .inl rfl | exact .inr rfl | assumption) : SJ X W P (.Assign [.Name x pos'] e pos) (sAs (gN i) f) := by
  obtain ⟨t, p, k⟩ := h
  refine ⟨_, ps_set hN hi hx p hs hf, sok_as k ?_⟩
  refine fun env σ K H v d e' Q s h q => ?_
  unfold gN at h
  split at h
  · rename_i c
    cases h
    exact q _ H (pin_set (fun z => by rw [List.contains_iff_mem.mpr z] at hi'; cases hi')) (s.put c)
  · cases h

/-! ### loops -/
def ItS (J : It) (ds : List D) (K : List Ent) : Prop := ∀ i H L, SI H (K ++ L) → (ds.length ≤ i → J.stop i H) ∧ (∀ d, ds[i]? = some d → J.go i H ∧ ∀ x H1, J.yld i H x H1 → SI H1 ((d, some x) :: (K ++ L)))
abbrev Iv := EnvD → M (List D)
def IOk (W : WX) (wi : TI) (f : Iv) : Prop := ∀ env σ K H R, Stt H K env σ → MPost W K σ (fun ds e => ∀ J H' K', Stt H' (K' ++ K) e σ → ItS J ds K' → R J H') (f env) → wi σ H R
structure IJ (X : Cx) (W : WX) (tg it : Expr) (f : Iv) : Prop where
  ex : ∃ wi, PI X tg it wi ∧ IOk W wi f
def forD (g : Gv) (b : Sv) : List D → EnvD → M Out
  | [], e => .ok .nx e
  | d :: ds, e => match g d e with
    | none => .no
    | some e1 => (b e1).bind fun o e2 => match o with
      | .nx => forD g b ds e2
      | .ct => forD g b ds e2
      | .bk => .ok .nx e2
      | .rt d => .ok (.rt d) e2
def sFor (fi : Iv) (g : Gv) (b : Sv) : Sv := fun e => (fi e).bind fun ds e1 => forD g b ds e1
theorem SPost.dropK {K K0 : List Ent} {σ : St} {Dn : Ends} {o : Out} {e : EnvD} (h : OPost P K σ Dn e o) : OPost P (K0 ++ K) σ Dn e o := by
  cases o with
  | nx => exact fun σ' H' p s => h σ' H' p s.drops
  | rt d => exact fun v σ' H' p s => h v σ' H' p s.mid
  | bk => exact fun σ' H' p s => h σ' H' p s.drops
  | ct => exact fun σ' H' p s => h σ' H' p s.drops
theorem sok_for {wi : TI} {tg : TG} {tb : TS} {fi : Iv} {g : Gv} {b : Sv} (hi : IOk W wi fi) (hg : GOk P tg g) (hb : SOk W P tb b) : SOk W P (tFor wi tg tb) (sFor fi g b) := by
  intro env σ K H Dn s m
  refine hi env σ K H _ s (MPost.mono (SPost.bind0 m) fun ds e1 h1 J H1 K' s1 js => ?_)
  refine ⟨fun i m σ' H' => m = ds.length - i ∧ i ≤ ds.length ∧ Pin P σ σ' ∧ ∃ e, Stt H' (K' ++ K) e σ' ∧ SPost W P K σ Dn (forD g b (ds.drop i) e), ⟨ds.length, by simp, Nat.zero_le _, Pin.refl, e1, s1, by simpa using h1⟩, ?_⟩
  rintro i m σ2 H2 ⟨rfl, hi', pn, e, s2, q⟩
  have s2' : SI H2 (K' ++ (K ++ e.zip σ2)) := by have := s2.si; rwa [List.append_assoc] at this
  by_cases c : i < ds.length
  · refine .inr ?_
    have hd : ds[i]? = some ds[i] := List.getElem?_eq_getElem c
    obtain ⟨go, yl⟩ := (js i H2 _ s2').2 _ hd
    refine ⟨go, fun σ' H' => i + 1 ≤ ds.length ∧ Pin P σ σ' ∧ ∃ e, Stt H' (K' ++ K) e σ' ∧ SPost W P K σ Dn (forD g b (ds.drop (i + 1)) e), fun σ' H' ⟨a1, a2, a3⟩ => ⟨ds.length - (i + 1), by omega, rfl, a1, a2, a3⟩, fun x H3 y => ?_⟩
    have s3 := yl x H3 y
    rw [List.drop_eq_getElem_cons c] at q
    unfold forD at q
    cases ge : g ds[i] e with
    | none => rw [ge] at q; exact q.elim
    | some e3 =>
      rw [ge] at q
      simp only at q
      refine hg e σ2 (K' ++ K) H3 x ds[i] e3 _ ⟨s2.len, by simpa using s3⟩ ge fun σ4 H4 pn4 s4 => ?_
      refine hb e3 σ4 (K' ++ K) H4 _ s4 ?_
      have pn' := pn.trans pn4
      cases be : b e3 with
      | no => rw [be] at q; exact q.elim
      | er x e5 =>
        rw [be] at q
        exact fun σ' H' da p s' => q σ' H' da (pn'.trans p) s'.mid
      | ok o e5 =>
        rw [be] at q
        cases o with
        | nx => exact fun σ' H' p s' => ⟨c, pn'.trans p, e5, s', q⟩
        | ct => exact fun σ' H' p s' => ⟨c, pn'.trans p, e5, s', q⟩
        | bk => exact fun σ' H' p s' => q σ' H' (pn'.trans p) s'.drops
        | rt d => exact fun v σ' H' p s' => q v σ' H' (pn'.trans p) s'.mid
  · refine .inl ⟨(js i H2 _ s2').1 (by omega), ?_⟩
    rw [List.drop_eq_nil_of_le (by omega)] at q
    exact q σ2 H2 pn s2.drops
theorem sj_for {tg iter : Expr} {body : List Stmt} {fi : Iv} {g : Gv} {b : Sv} {pos : Pos} (hp : PassesOwn (model X.prog X.w) X.A X.env X.xe) (hc : X.calm = true) (hi : IJ X W tg iter fi) (hg : GJ X P tg g) (hb : BJ X W P body b) (hs : ∀ x, foldedSetIterable iter X.env x = pure x := by intro _; rfl) : SJ X W P (.For tg iter body [] pos) (sFor fi g b) := by
  obtain ⟨wi, p1, k1⟩ := hi
  obtain ⟨t, p2, k2⟩ := hg
  obtain ⟨tb, p3, k3⟩ := hb
  exact ⟨_, ps_for hp hc p1 p2 p3 hs, sok_for k1 k2 k3⟩
/-- over a list or a tuple -/
def iSeq (Kf : PySem.W.Frag) (tl : TE) : TI := fun σ H R => tl σ H fun x H1 => ∃ a, x = .ref a ∧ (((∃ xs, SqL Kf H1 a xs) ∧ R (Itl Kf a) H1) ∨ ((∃ xs, SqT Kf H1 a xs) ∧ R (Itt Kf a) H1))
theorem pi_seq {tg l : Expr} {tl : TE} (hl : PE X l tl) : PI X tg l (iSeq X.K tl) := by
  refine ⟨fun pins s σ H R I h => ?_⟩
  refine thn (hl.run pins s σ H _ I h) fun v s1 ⟨x, H1, I1, r1, q1⟩ => ?_
  obtain ⟨a, e, q⟩ := q1
  subst e
  cases r1
  rcases q with ⟨⟨xs, hq⟩, q⟩ | ⟨⟨xs, hq⟩, q⟩
  · obtain ⟨its, rv, p, hz⟩ := I1.list hq
    refine wpAny_pyIter_list p.isList ?_
    refine ⟨s1.heap.objs.size, [s1.heap.objs.size], _, _, H1, rfl, I1.kept (t' := s1.toks) fun b o e => Heap.get?_push_of_some _ e, turn_list a _, ⟨_, Heap.get?_push_size _ rfl, rfl, rfl⟩, fun b hb => ?_, q⟩
    have e : b = s1.heap.objs.size := by simpa using hb
    subst e
    exact I1.fpOk (Nat.le_refl _) (I1.hok.fresh (Nat.le_refl _))
  · obtain ⟨its, rv, p, hz⟩ := I1.tuple hq
    refine wpAny_pyIter_tuple (show s1.heap.IsTuple a its.toArray from p) ?_
    refine ⟨s1.heap.objs.size, [s1.heap.objs.size], _, _, H1, rfl, I1.kept (t' := s1.toks) fun b o e => Heap.get?_push_of_some _ e, turn_tuple a _, ⟨_, Heap.get?_push_size _ rfl, rfl, rfl⟩, fun b hb => ?_, q⟩
    have e : b = s1.heap.objs.size := by simpa using hb
    subst e
    exact I1.fpOk (Nat.le_refl _) (I1.hok.fresh (Nat.le_refl _))
def fSeq (f : Ev) : Iv := fun e => (f e).bind fun r e1 => match r with
  | .val (.lst _ ds) => if fzns ds then .ok ds e1 else .no
  | .val (.tup ds) => if fzns ds then .ok ds e1 else .no
  | .val (.scr ns) => .ok (ns.map fun n => .atm (.int n)) e1
  | _ => .no
theorem fzns_get : ∀ {ds : List D} {i : Nat} {d : D}, fzns ds = true → ds[i]? = some d → fzn d = true
  | [], i, d, h, e => by cases i <;> cases e
  | x :: ds, 0, d, h, e => by cases e; simp [fzns] at h; exact h.1
  | x :: ds, i + 1, d, h, e => by simp [fzns] at h; exact fzns_get h.2 (by simpa using e)
theorem its_lst {Kf : PySem.W.Frag} {own : Bool} {ds : List D} {a : Addr} (f : fzns ds = true) : ItS (Itl Kf a) ds [(.lst own ds, some (.ref a))] := by
  intro i H L s
  obtain ⟨b, vs, e, ha, pk⟩ := s.pk.lst
  cases e
  refine ⟨fun h => ⟨vs, .inl (.inl ha), by rw [← pk.1]; exact h⟩, fun d hd => ?_⟩
  obtain ⟨v, e1, s1⟩ := s.kidL ha hd (fzns_get f hd)
  refine ⟨⟨vs, v, .inl (.inl ha), e1⟩, fun x H1 ⟨e2, y⟩ => ?_⟩
  subst e2
  have := y vs (.inl (.inl ha))
  rw [e1] at this
  cases this
  exact s1
theorem its_tup {Kf : PySem.W.Frag} {ds : List D} {a : Addr} (f : fzns ds = true) : ItS (Itt Kf a) ds [(.tup ds, some (.ref a))] := by
  intro i H L s
  obtain ⟨b, vs, e, ha, pk⟩ := s.pk.tup
  cases e
  refine ⟨fun h => ⟨vs, .inl (.inl ha), by rw [← pk.1]; exact h⟩, fun d hd => ?_⟩
  obtain ⟨v, e1, s1⟩ := s.kidT ha hd (fzns_get f hd)
  refine ⟨⟨vs, v, .inl (.inl ha), e1⟩, fun x H1 ⟨e2, y⟩ => ?_⟩
  subst e2
  have := y vs (.inl (.inl ha))
  rw [e1] at this
  cases this
  exact s1
theorem its_scr {Kf : PySem.W.Frag} {ns : List Int} {a : Addr} : ItS (Itl Kf a) (ns.map fun n => .atm (.int n)) [(.scr ns, some (.ref a))] := by
  intro i H L s
  obtain ⟨b, e, ha⟩ := s.pk.scr
  cases e
  refine ⟨fun h => ⟨_, .inl ha, by simpa using h⟩, fun d hd => ?_⟩
  have hd' : ∃ n, ns[i]? = some n ∧ D.atm (.int n) = d := by simpa using hd
  obtain ⟨n, e1, e2⟩ := hd'
  subst e2
  refine ⟨⟨_, .int n, .inl ha, by simp [e1]⟩, fun x H1 ⟨e2, y⟩ => ?_⟩
  subst e2
  have := y _ (.inl ha)
  rw [List.getElem?_map, e1] at this
  cases this
  exact s.atm nr_int
theorem ij_seq {tg l : Expr} {f : Ev} (h : EJ X W l f) : IJ X W tg l (fSeq f) := by
  obtain ⟨t, p, k⟩ := h
  refine ⟨_, pi_seq p, fun env σ K H R s m => k env σ K H _ s (MPost.mono (MPost.bind0 m) fun r e1 h1 v H1 s1 o1 => ?_)⟩
  split at h1
  · rename_i own ds
    split at h1
    · rename_i c
      obtain ⟨a, vs, e, ha, pk⟩ := s1.si.pk.lst
      subst e
      exact ⟨a, rfl, .inl ⟨⟨vs, .inl (.inl ha)⟩, h1 _ H1 _ s1 (its_lst c)⟩⟩
    · exact h1.elim
  · rename_i ds
    split at h1
    · rename_i c
      obtain ⟨a, vs, e, ha, pk⟩ := s1.si.pk.tup
      subst e
      exact ⟨a, rfl, .inr ⟨⟨vs, .inl (.inl ha)⟩, h1 _ H1 _ s1 (its_tup c)⟩⟩
    · exact h1.elim
  · rename_i ns
    obtain ⟨a, e, ha⟩ := s1.si.pk.scr
    subst e
    exact ⟨a, rfl, .inl ⟨⟨_, .inl ha⟩, h1 _ H1 _ s1 its_scr⟩⟩
  · exact h1.elim
/-- over range(n), range(a, b) -/
def rngD (lo : Int) (n : Nat) : List D := (List.range n).map fun i => .atm (.int (lo + (i : Nat)))
theorem its_rng {lo : Int} {n : Nat} : ItS (Itr lo n) (rngD lo n) [] := by
  intro i H L s
  refine ⟨fun h => by simpa [rngD, Itr] using h, fun d hd => ?_⟩
  unfold rngD at hd
  rw [List.getElem?_map] at hd
  cases e : (List.range n)[i]? with
  | none => rw [e] at hd; cases hd
  | some j =>
    rw [e] at hd
    obtain ⟨hj, ej⟩ := List.getElem?_eq_some_iff.mp e
    rw [List.getElem_range] at ej
    subst ej
    cases hd
    refine ⟨by show i < n; simpa using hj, fun x H1 ⟨e2, y⟩ => ?_⟩
    subst e2; subst y
    exact s.atm nr_int
def fR1 (f : Av) : Iv := fun e => (f e).bind fun rs e1 => match peeks rs e1 with
  | some [.atm (.int n)] => if decide (-(2 ^ 62) ≤ n) && decide (n < 2 ^ 62) then .ok (rngD 0 n.toNat) e1 else .no
  | _ => .no
def fR2 (f : Av) : Iv := fun e => (f e).bind fun rs e1 => match peeks rs e1 with
  | some [.atm (.int a), .atm (.int b)] => if decide (-(2 ^ 62) ≤ a) && decide (a < 2 ^ 62) && decide (-(2 ^ 62) ≤ b) && decide (b < 2 ^ 62) then .ok (rngD a (b - a).toNat) e1 else .no
  | _ => .no
theorem ij_r1 {tg a : Expr} {f : Av} {p pos : Pos} (hg : Gl X "range") (hm : X.mg "range" = none) (ha : AJ X W [a] f) (hs : starEach [a] X.env = [(false, eval a X.env)] := by rfl) : IJ X W tg (.Call (.Name "range" p) [a] [] pos) (fR1 f) := by
  obtain ⟨t, q, k⟩ := ha
  refine ⟨_, pi_range1 hg hm q hs, fun env σ K H R s m => k env σ K H _ s (MPost.mono (MPost.bind0 m) fun rs e1 h1 vs H1 s1 o1 => ?_)⟩
  split at h1
  · rename_i n hp
    split at h1
    · rename_i c
      obtain ⟨v, e, mv⟩ := mems1 (mems_of (L := ents rs vs ++ K ++ e1.zip σ) (e := e1) (σ := σ) (fun p hp => by simp [hp]) hp o1 fun p hp => by simp [hp])
      have ev := (s1.si.pkm mv).atm
      subst e; subst ev
      simp only [Bool.and_eq_true, decide_eq_true_eq] at c
      exact ⟨n, rfl, c.1, c.2, h1 _ H1 [] s1.drops its_rng⟩
    · exact h1.elim
  · exact h1.elim
theorem ij_r2 {tg a b : Expr} {f : Av} {p pos : Pos} (hg : Gl X "range") (hm : X.mg "range" = none) (ha : AJ X W [a, b] f) (hs : starEach [a, b] X.env = [(false, eval a X.env), (false, eval b X.env)] := by rfl) (hs2 : starEach [b] X.env = [(false, eval b X.env)] := by rfl) : IJ X W tg (.Call (.Name "range" p) [a, b] [] pos) (fR2 f) := by
  obtain ⟨t, q, k⟩ := ha
  refine ⟨_, pi_range2 hg hm q hs hs2, fun env σ K H R s m => k env σ K H _ s (MPost.mono (MPost.bind0 m) fun rs e1 h1 vs H1 s1 o1 => ?_)⟩
  split at h1
  · rename_i n n' hp
    split at h1
    · rename_i c
      obtain ⟨v, v', e, mv, mv'⟩ := mems2 (mems_of (L := ents rs vs ++ K ++ e1.zip σ) (e := e1) (σ := σ) (fun p hp => by simp [hp]) hp o1 fun p hp => by simp [hp])
      have ev := (s1.si.pkm mv).atm
      have ev' := (s1.si.pkm mv').atm
      subst e; subst ev; subst ev'
      simp only [Bool.and_eq_true, decide_eq_true_eq] at c
      exact ⟨n, n', rfl, ⟨c.1.1.1, c.1.1.2, c.1.2, c.2⟩, h1 _ H1 [] s1.drops its_rng⟩
    · exact h1.elim
  · exact h1.elim
end VS
set_option Elab.async false
set_option linter.all false
set_option maxRecDepth 100000
namespace VS
open PySem PySem.Spec PyProof.Rows L2
variable {X : Cx} {W : WX} {P : List Nat}

/-! ### defs -/
def maskD (P : List Nat) : Nat → List D → List D
  | _, [] => []
  | i, d :: ds => (if P.contains i then d else .jnk) :: maskD P (i + 1) ds
abbrev Fv := List D → M D
def fnD (P : List Nat) (n ns : Nat) (b : Sv) : Fv := fun ds => if ds.length = n then
    match b (ds ++ List.replicate (ns - n) .jnk) with
    | .ok (.rt d) e => .ok d (maskD P 0 (e.take n))
    | .ok .nx e => .ok (.atm .non) (maskD P 0 (e.take n))
    | .er x _ => .er x []
    | _ => .no
  else .no
def FPost (K : List Ent) (vs : List V) (Q : VK) (E : XK) : M D → Prop
  | .no => False
  | .er x _ => ∀ H' da, SI H' ((.xdt x.ns x.ds, some (.ref da)) :: K) → E (.ref x.c) (some da) H'
  | .ok d fin => ∀ v H', SI H' ((d, some v) :: (fin.zip (vs.map some) ++ K)) → Q v H'
def spD (n : Nat) (g : Fv) : Sp := fun vs H Q E => vs.length = n ∧ ∃ ds K, ds.length = vs.length ∧ SI H (ds.zip (vs.map some) ++ K) ∧ FPost K vs Q E (g ds)
theorem SI.jnks {H : Hp} {L : List Ent} (s : SI H L) : ∀ (n m : Nat), SI H ((List.replicate n D.jnk).zip (List.replicate m (none : Option V)) ++ L)
  | 0, m => by simpa using s
  | n + 1, 0 => by simpa [List.replicate_succ] using s
  | n + 1, m + 1 => by
    rw [List.replicate_succ, List.replicate_succ]
    exact SI.jnk (SI.jnks s n m)
theorem mask_ok {H : Hp} {P : List Nat} : ∀ (vs : List V) (e : EnvD) (σ : L2.St) (i : Nat) (L : List Ent), SI H (L ++ e.zip σ) → vs.length ≤ e.length →
    (∀ j v, vs[j]? = some v → P.contains (i + j) = true → σ[j]? = some (some v)) → SI H (L ++ (maskD P i (e.take vs.length)).zip (vs.map some))
  | [], e, σ, i, L, s, l, h => by
    have := SI.drops (M := e.zip σ) (s.perm List.perm_append_comm)
    simpa [maskD] using this
  | v :: vs, [], σ, i, L, s, l, h => by simp at l
  | v :: vs, d :: e, [], i, L, s, l, h => by
    have ih := mask_ok vs e [] (i + 1) L (by simpa using s) (by simpa using l) (fun j w e1 c => by
      have := h (j + 1) w (by simpa using e1) (by rw [show i + (j + 1) = i + 1 + j by omega]; exact c)
      simp at this)
    show SI H (L ++ ((if P.contains i then d else .jnk), some v) :: (maskD P (i + 1) (e.take vs.length)).zip (vs.map some))
    have hc : P.contains i = false := by
      cases c : P.contains i with
      | false => rfl
      | true => have := h 0 v rfl (by simpa using c); simp at this
    rw [hc]
    exact (SI.jnk ih).perm List.perm_middle.symm
  | v :: vs, d :: e, o :: σ, i, L, s, l, h => by
    have s1 : SI H (((d, o) :: L) ++ e.zip σ) := s.perm (by
      show (L ++ (d, o) :: e.zip σ).Perm ((d, o) :: (L ++ e.zip σ))
      exact List.perm_middle)
    have ih := mask_ok vs e σ (i + 1) ((d, o) :: L) s1 (by simpa using l) (fun j w e1 c => by
      have := h (j + 1) w (by simpa using e1) (by rw [show i + (j + 1) = i + 1 + j by omega]; exact c)
      simpa using this)
    show SI H (L ++ ((if P.contains i then d else .jnk), some v) :: (maskD P (i + 1) (e.take vs.length)).zip (vs.map some))
    cases c : P.contains i with
    | true =>
      have := h 0 v rfl (by simpa using c)
      simp at this
      subst this
      exact ih.perm List.perm_middle.symm
    | false => exact (SI.jnk ih.drop).perm List.perm_middle.symm
/-- what a def's body is to be -/
theorem fn_j {Pg : Program} {w : World} {K : PySem.W.Frag} {mg : Str → Option Value} {base : Heap} {x qual : Str} {params : Arguments} {body : List Stmt} {scope : Scope} {dvs : List V} {kws : List (Str × V)} {f : Addr} {fd : FuncData} {N ps : List Str} {k n ns : Nat} {b : Sv} (F : FunD K x qual params body scope dvs kws f fd) (S : FnScope N ps scope)
    (hn : ps.length = n) (hN : N.length = ns) (hle : n ≤ ns) (hP : P.all (fun j => decide (j < n)) = true)
    (hb : ∀ (cdv : Value) (A : Around) (outer : List Env) (s : Shared) (H : Hp) (E : XK), Room k (A.deeper (envOfC qual scope s.heap.objs.size f cdv)) →
      Takes (cxOf (L2.CX Pg w) Pg w K mg base N qual scope f cdv A outer s H E) (fun cls d _ H => E cls d H) →
      PassesOwn (model Pg w) (A.deeper (envOfC qual scope s.heap.objs.size f cdv)) (envOfC qual scope s.heap.objs.size f cdv) (cxOf (L2.CX Pg w) Pg w K mg base N qual scope f cdv A outer s H E).xe →
      BJ (cxOf (L2.CX Pg w) Pg w K mg base N qual scope f cdv A outer s H E) (fun cls d _ H => E cls d H) P body b) :
    FnOk Pg w K mg base (L2.CX Pg w) (k + 1) f fd ps (spD n (fnD P n ns b)) := by
  refine F.ok S (fun vs H Q E h => h.1.trans hn.symm) fun cdv A outer s H vs Q E hr hsp => ?_
  obtain ⟨t, p, q⟩ := hb cdv A outer s H E hr (takes_of rfl rfl rfl rfl) (passes_of rfl)
  refine ⟨t, p, ?_⟩
  obtain ⟨hv, ds, Kf, hl, si, post⟩ := hsp
  have hdn : ds.length = n := hl.trans hv
  have hst : Stt H Kf (ds ++ List.replicate (ns - n) .jnk) (L2.start N vs) := by
    refine ⟨by simp [L2.start, hl, hv, hN], ?_⟩
    unfold L2.start
    rw [List.zip_append (by simpa using hl), hN, hv]
    have := SI.jnks si (ns - n) (ns - n)
    refine this.perm ?_
    refine (List.perm_append_comm).trans ?_
    refine (List.perm_append_comm.append_right _).trans ?_
    rw [List.append_assoc]
  refine q _ _ Kf H _ hst ?_
  unfold fnD at post
  rw [if_pos hdn] at post
  have fin : ∀ (d : D) (e : EnvD) (v : V) (σ' : L2.St) (H' : Hp), Pin P (L2.start N vs) σ' → Stt H' ((d, some v) :: Kf) e σ' → SI H' ((d, some v) :: ((maskD P 0 (e.take n)).zip (vs.map some) ++ Kf)) := by
    intro d e v σ' H' pn s'
    have hlen : vs.length ≤ e.length ∨ σ'.length < vs.length := by
      have := s'.len
      omega
    have pw : ∀ j w, vs[j]? = some w → P.contains (0 + j) = true → σ'[j]? = some (some w) := by
      intro j w e1 c
      rw [Nat.zero_add] at c
      rw [pn.2 j (List.contains_iff_mem.mp c)]
      unfold L2.start
      rw [List.getElem?_append_left (by
        obtain ⟨z, _⟩ := List.getElem?_eq_some_iff.mp e1
        simpa using z), List.getElem?_map, e1]
      rfl
    rcases hlen with hlen | hlen
    · have := mask_ok vs e σ' 0 ((d, some v) :: Kf) s'.si hlen pw
      rw [hv] at this
      refine this.perm ?_
      show ((d, some v) :: (Kf ++ (maskD P 0 (e.take n)).zip (vs.map some))).Perm _
      exact List.perm_append_comm.cons _
    · -- the frame's slots do not vanish: still, show it by the shorter list
      have hz : ∀ (vs : List V) (e : EnvD) (σ : L2.St) (i : Nat) (L : List Ent), e.length = σ.length → SI H' (L ++ e.zip σ) → (∀ j v, vs[j]? = some v → P.contains (i + j) = true → σ[j]? = some (some v)) → SI H' (L ++ (maskD P i (e.take vs.length)).zip (vs.map some)) := by
        intro vs
        induction vs with
        | nil => intro e σ i L hl s h; have := SI.drops (M := e.zip σ) (s.perm List.perm_append_comm); simpa [maskD] using this
        | cons v vs ih =>
          intro e σ i L hl s h
          cases e with
          | nil => have := SI.drops (M := ([] : EnvD).zip σ) (s.perm List.perm_append_comm); simpa [maskD] using this
          | cons d e => cases σ with
            | nil => simp at hl
            | cons o σ =>
              have s1 : SI H' (((d, o) :: L) ++ e.zip σ) := s.perm (by
                show (L ++ (d, o) :: e.zip σ).Perm ((d, o) :: (L ++ e.zip σ))
                exact List.perm_middle)
              have ih := ih e σ (i + 1) ((d, o) :: L) (by simpa using hl) s1 (fun j w e1 c => by
                have := h (j + 1) w (by simpa using e1) (by rw [show i + (j + 1) = i + 1 + j by omega]; exact c)
                simpa using this)
              show SI H' (L ++ ((if P.contains i then d else .jnk), some v) :: (maskD P (i + 1) (e.take vs.length)).zip (vs.map some))
              cases c : P.contains i with
              | true =>
                have := h 0 v rfl (by simpa using c)
                simp at this
                subst this
                exact ih.perm List.perm_middle.symm
              | false => exact (SI.jnk ih.drop).perm List.perm_middle.symm
      have := hz vs e σ' 0 ((d, some v) :: Kf) s'.len s'.si pw
      rw [hv] at this
      refine this.perm ?_
      show ((d, some v) :: (Kf ++ (maskD P 0 (e.take n)).zip (vs.map some))).Perm _
      exact List.perm_append_comm.cons _
  cases be : b (ds ++ List.replicate (ns - n) .jnk) with
  | no => rw [be] at post; exact post
  | er x e =>
    rw [be] at post
    exact fun σ' H' da pn s' => post H' da (SI.drops (M := e.zip σ') (s'.si.perm List.perm_append_comm))
  | ok o e =>
    rw [be] at post
    cases o with
    | rt d => exact fun v σ' H' pn s' => post v H' (fin d e v σ' H' pn s')
    | nx => exact fun σ' H' pn s' => post .non H' (fin _ e .non σ' H' pn ⟨s'.len, s'.si.atm (fun _ z => by cases z)⟩)
    | bk => exact post.elim
    | ct => exact post.elim

/-! ### calls -/
def takeS : List R → EnvD → Option (List D × EnvD)
  | [], e => some ([], e)
  | .val d :: rs, e => match takeS rs e with
    | some (ds, e') => some (d :: ds, e')
    | none => none
  | .slot i :: rs, e => match e[i]? with
    | some d => match takeS rs (e.set i .jnk) with
      | some (ds, e') => some (d :: ds, e')
      | none => none
    | none => none
def putS : List R → List D → EnvD → EnvD
  | .slot i :: rs, d :: ds, e => putS rs ds (e.set i d)
  | .val _ :: rs, _ :: ds, e => putS rs ds e
  | _, _, e => e
theorem take_ok {H : Hp} {σ : L2.St} : ∀ {rs : List R} {vs : List V} {e e2 : EnvD} {ds : List D} {K : List Ent}, takeS rs e = some (ds, e2) → oks σ rs vs → Stt H (ents rs vs ++ K) e σ →
    Stt H (ds.zip (vs.map some) ++ K) e2 σ ∧ ds.length = vs.length
  | [], [], e, e2, ds, K, h, o, s => by cases h; exact ⟨s, rfl⟩
  | [], _ :: _, e, e2, ds, K, h, o, s => o.elim
  | r :: rs, [], e, e2, ds, K, h, o, s => o.elim
  | .val d :: rs, v :: vs, e, e2, ds, K, h, o, s => by
    unfold takeS at h
    split at h
    · rename_i ds' e' e1
      cases h
      have s1 : Stt H (ents rs vs ++ ((d, some v) :: K)) e σ := s.perm List.perm_middle.symm
      obtain ⟨s2, l⟩ := take_ok e1 o.2 s1
      exact ⟨s2.perm List.perm_middle, by simp [l]⟩
    · cases h
  | .slot i :: rs, v :: vs, e, e2, ds, K, h, o, s => by
    unfold takeS at h
    split at h
    · rename_i d hd
      split at h
      · rename_i ds' e' e1
        cases h
        have s0 : Stt H ((.jnk, some v) :: (ents rs vs ++ K)) e σ := ⟨s.len, SI.jnk s.si⟩
        have s1 := Stt.swap s0 hd o.1
        have s2 : Stt H (ents rs vs ++ ((d, some v) :: K)) (e.set i .jnk) σ := s1.perm List.perm_middle.symm
        obtain ⟨s3, l⟩ := take_ok e1 o.2 s2
        exact ⟨s3.perm List.perm_middle, by simp [l]⟩
      · cases h
    · cases h
theorem put_ok {H : Hp} {σ : L2.St} : ∀ {rs : List R} {vs : List V} {e : EnvD} {fin : List D} {K : List Ent}, oks σ rs vs → Stt H (fin.zip (vs.map some) ++ K) e σ → Stt H K (putS rs fin e) σ
  | [], [], e, fin, K, o, s => by unfold putS; exact s.drops
  | [], _ :: _, e, fin, K, o, s => o.elim
  | r :: rs, [], e, fin, K, o, s => o.elim
  | .val d :: rs, v :: vs, e, [], K, o, s => by unfold putS; exact s
  | .slot i :: rs, v :: vs, e, [], K, o, s => by unfold putS; exact s
  | .val d :: rs, v :: vs, e, x :: fin, K, o, s => by
    unfold putS
    exact put_ok o.2 (Stt.drops (B := [(x, some v)]) s)
  | .slot i :: rs, v :: vs, e, x :: fin, K, o, s => by
    unfold putS
    have hi : i < e.length := by
      rw [s.len]; exact (List.getElem?_eq_some_iff.mp o.1).1
    have s1 := Stt.put (i := i) (show Stt H ((x, some v) :: (fin.zip (vs.map some) ++ K)) e σ from s) hi
    rw [set_self o.1] at s1
    exact put_ok o.2 s1
def eCall (n : Nat) (g : Fv) (fa : Av) : Ev := fun e => (fa e).bind fun rs e1 => match takeS rs e1 with
  | some (ds, e2) => if ds.length = n then match g ds with
    | .no => .no
    | .er x _ => .er x e2
    | .ok d fin => .ok (.val d) (putS rs fin e2)
    else .no
  | none => .no
theorem eok_call {n : Nat} {g : Fv} {t : TA} {f : Av} (ha : AOk W t f) : EOk W (tCallS (spD n g) (WE W) t) (eCall n g f) := by
  intro env σ K H Q s h
  refine ha env σ K H _ s (MPost.mono (MPost.bind0 h) fun rs e1 h1 vs H1 s1 o1 => ?_)
  cases tk : takeS rs e1 with
  | none => simp only [tk] at h1; exact h1.elim
  | some z =>
    obtain ⟨ds, e2⟩ := z
    simp only [tk] at h1
    obtain ⟨s2, l⟩ := take_ok tk o1 s1
    by_cases hn : ds.length = n
    · rw [if_pos hn] at h1
      refine ⟨l.symm.trans hn, ds, K ++ e2.zip σ, l, by have := s2.si; rwa [List.append_assoc] at this, ?_⟩
      cases ge : g ds with
      | no => rw [ge] at h1; exact h1.elim
      | er x e => rw [ge] at h1; exact fun H' da s' => h1 H' da ⟨s2.len, s'⟩
      | ok d fin =>
        rw [ge] at h1
        refine fun v H' s' => h1 v H' ?_ trivial
        have s3 : Stt H' (fin.zip (vs.map some) ++ ((d, some v) :: K)) e2 σ := ⟨s2.len, s'.perm (by
          rw [List.append_assoc]
          exact List.perm_middle.symm)⟩
        exact put_ok o1 s3
    · rw [if_neg hn] at h1; exact h1.elim
theorem ej_call {k n : Nat} {f : Addr} {fd : FuncData} {ps : List Str} {g : Fv} {x : Str} {p pos : Pos} {e : Expr} {es : List Expr} {fa : Av} (tk : Takes X W) (F : FnOk X.prog X.w X.K X.mg X.base (L2.CX X.prog X.w) k f fd ps (spD n g)) (hr : Room k X.A) (hg : Gl X x) (hm : X.mg x = some (.ref f))
    (hk : PySem.W.keepIn X.K (.ref f) = true) (hb : Binds X.K fd ps []) (ha : AJ X W (e :: es) fa) (hdb : (x == ("__debug__" : Str)) = false := by decide) (he : starEach (e :: es) X.env = (false, eval e X.env) :: starEach es X.env := by rfl) (hpl : (backTo pos (starEach es X.env)).any (·.1) = false := by rfl) :
    EJ X W (.Call (.Name x p) (e :: es) [] pos) (eCall n g fa) := by
  obtain ⟨t, q, kk⟩ := ha
  exact ⟨_, pe_callS F hr hg hm hk hb (fun σ => passAt tk σ) q hdb he hpl, eok_call kk⟩

/-! ### methods of lists that change -/
def eMut (i : Nat) (g : List D → List D → Option (List D × D)) (fa : Av) : Ev := fun e => match e[i]? with
  | some (.lst true _) => (fa e).bind fun rs e1 => match e1[i]?, vals rs with
    | some (.lst true ds), some as => match g ds as with
      | some (ds', z) => .ok (.val z) (e1.set i (.lst true ds'))
      | none => .no
    | _, _ => .no
  | _ => .no
def MutOk (r : V → List V → Hp → VK → Prop) (g : List D → List D → Option (List D × D)) : Prop := ∀ H L a ds as vs ds' z Q, as.length = vs.length → SI H ((.lst true ds, some (.ref a)) :: (as.zip (vs.map some) ++ L)) → g ds as = some (ds', z) →
  (∀ u H', SI H' ((.lst true ds', some (.ref a)) :: (z, some u) :: L) → Q u H') → r (.ref a) vs H Q
theorem eok_mut {i : Nat} {r : V → List V → Hp → VK → Prop} {g : List D → List D → Option (List D × D)} {ta : TA} {fa : Av} {Kf : PySem.W.Frag} (hg : MutOk r g) (ha : AOk W ta fa) : EOk W (tBM Kf "list" r (tVar i) ta) (eMut i g fa) := by
  intro env σ K H Q s h
  unfold eMut at h
  split at h
  · rename_i ds0 hd0
    obtain ⟨v, hv⟩ := slot_some s hd0 rfl
    refine ⟨v, hv, ?_, ha env σ K H _ s (MPost.mono (MPost.bind0 h) fun rs e1 h1 vs H1 s1 o1 => ?_)⟩
    · obtain ⟨a, ws, ev, hh, _⟩ := (s.si.pkm (List.mem_append_right _ (mem_zip hd0 hv))).lst
      subst ev
      exact .inl ⟨rfl, ws, .inl (.inl hh)⟩
    · split at h1
      · rename_i ds as hd ha'
        split at h1
        · rename_i ds' z hz
          obtain ⟨ez, el⟩ := vals_ents ha' o1
          have s2 := Stt.swap (y := .jnk) (o := some v) ⟨s1.len, SI.jnk s1.si⟩ hd hv
          obtain ⟨a, ws, ev, hh, _⟩ := s2.si.pk.lst
          subst ev
          have s3 : SI H1 ((.lst true ds, some (.ref a)) :: (as.zip (vs.map some) ++ (K ++ (e1.set i .jnk).zip σ))) := by
            have := s2.si
            rw [ez, List.cons_append, List.append_assoc] at this
            exact this
          refine hg H1 _ a ds as vs ds' z Q el s3 hz fun u H' s4 => h1 u H' ?_ trivial
          have s5 : Stt H' ((.lst true ds', some (.ref a)) :: ((z, some u) :: K)) (e1.set i .jnk) σ := ⟨by rw [List.length_set]; exact s1.len, s4⟩
          have hi : i < (e1.set i D.jnk).length := by
            rw [List.length_set]; exact (List.getElem?_eq_some_iff.mp hd).1
          have s6 := s5.put hi
          rw [set_self hv, List.set_set] at s6
          exact s6
        · exact h1.elim
      · exact h1.elim
  · exact h.elim
theorem ej_mut {i : Nat} {r : V → List V → Hp → VK → Prop} {g : List D → List D → Option (List D × D)} {x name : Str} {id : String} {e : Expr} {es : List Expr} {fa : Av} {pos apos cpos : Pos} (slot : Slot "list" name id) (hty : typeOf (.builtin id) = pure (.type "method_descriptor")) (hm : MtR X id r) (hg : MutOk r g)
    (hN : X.N[i]? = some x) (hv : Vis X.env.scope x) (ha : AJ X W (e :: es) fa) (hd : (x == ("__debug__" : Str)) = false := by decide) (hcd : (x == ("__classdict__" : Str)) = false := by decide)
    (hbase : attributeBase (.Name x pos) name X.env (eval (.Name x pos) X.env) = eval (.Name x pos) X.env := by rfl)
    (hfew : ((backTo cpos (starEach (e :: es) X.env)).all (fun x => !x.1) && (backToKw cpos (keywordEach [] X.env)).all (fun x => x.1.isSome)
      && decide ((e :: es).length + ([] : List Keyword).length + (if ([] : List Keyword).isEmpty then 0 else 1) < 30)) = true := by rfl)
    (hline : (apos.endLine == cpos.line) = true := by rfl) (hs : starEach (e :: es) X.env = (false, eval e X.env) :: starEach es X.env := by rfl) (hplain : (backTo cpos (starEach es X.env)).any (·.1) = false := by rfl) :
    EJ X W (.Call (.Attribute (.Name x pos) name apos) (e :: es) [] cpos) (eMut i g fa) := by
  obtain ⟨t, q, k⟩ := ha
  exact ⟨_, pe_bm PySem.F.plainAttrs_list slot hty hm (pe_var hN hv hd hcd) q hbase hfew hline hs hplain, eok_mut hg k⟩
theorem ej_mut0 {i : Nat} {r : V → List V → Hp → VK → Prop} {g : List D → List D → Option (List D × D)} {x name : Str} {id : String} {pos apos cpos : Pos} (slot : Slot "list" name id) (hty : typeOf (.builtin id) = pure (.type "method_descriptor")) (hm : MtR X id r) (hg : MutOk r g)
    (hN : X.N[i]? = some x) (hv : Vis X.env.scope x) (hd : (x == ("__debug__" : Str)) = false := by decide) (hcd : (x == ("__classdict__" : Str)) = false := by decide)
    (hbase : attributeBase (.Name x pos) name X.env (eval (.Name x pos) X.env) = eval (.Name x pos) X.env := by rfl) (hline : (apos.endLine == cpos.line) = true := by rfl) :
    EJ X W (.Call (.Attribute (.Name x pos) name apos) [] [] cpos) (eMut i g aNil) := by
  refine ⟨_, pe_bm0 PySem.F.plainAttrs_list slot hty hm (pe_var hN hv hd hcd) hbase hline, ?_⟩
  exact eok_mut (Kf := X.K) (ta := tNil) hg (fun env σ K H Q s h => h [] H s trivial)
def mApp : List D → List D → Option (List D × D) := fun ds as => match as with
  | [d] => if ds.length < 16777216 then some (ds ++ [d], .atm .non) else none
  | _ => none
theorem nr_non : NR .non := fun _ z => by cases z
theorem mut_app : MutOk rAppend mApp := by
  intro H L a ds as vs ds' z Q hl s h q
  unfold mApp at h
  split at h
  · rename_i d
    split at h
    · rename_i c
      cases h
      match vs, hl with
      | [v], _ =>
        obtain ⟨b, ws, ev, ha, pk⟩ := s.pk.lst
        cases ev
        refine ⟨a, ws, v, rfl, rfl, ha, by rw [← pk.1, sizeLine_eq]; exact c, q .non _ ?_⟩
        have := SI.write (ds' := ds ++ [d]) (vs' := ws ++ [v]) (M' := L) (R := []) s ha (by simp [pk.1]) (by
          rw [List.map_append, List.zip_append (by simpa using pk.1), List.append_nil]
          show (ds.zip (ws.map some) ++ ((d, some v) :: L)).Perm _
          simp)
        exact (this.atm nr_non).perm (List.Perm.swap _ _ _)
    · cases h
  · cases h
def mPopAt : List D → List D → Option (List D × D) := fun ds as => match as with
  | [.atm (.int i)] => if decide (-(2 ^ 63) ≤ i) && decide (i < 2 ^ 63) then match seqIndex? i ds.length with
      | some k => match ds[k]? with
        | some d => some (ds.eraseIdx k, d)
        | none => none
      | none => none
    else none
  | _ => none
theorem zip_erase {α β : Type} : ∀ (xs : List α) (ys : List β) (k : Nat), (xs.eraseIdx k).zip (ys.eraseIdx k) = (xs.zip ys).eraseIdx k
  | [], ys, k => by simp
  | x :: xs, [], k => by simp
  | x :: xs, y :: ys, 0 => rfl
  | x :: xs, y :: ys, k + 1 => by simp [zip_erase xs ys k]
theorem erase_perm {α : Type} : ∀ {l : List α} {k : Nat} {x : α}, l[k]? = some x → l.Perm (x :: l.eraseIdx k)
  | [], k, x, h => by cases h
  | a :: l, 0, x, h => by cases h; exact .refl _
  | a :: l, k + 1, x, h => by
    simp only [List.eraseIdx_cons_succ]
    exact ((erase_perm (l := l) (k := k) (by simpa using h)).cons a).trans (List.Perm.swap _ _ _)
theorem map_erase {α β : Type} (f : α → β) : ∀ (l : List α) (k : Nat), (l.eraseIdx k).map f = (l.map f).eraseIdx k
  | [], k => by simp
  | a :: l, 0 => rfl
  | a :: l, k + 1 => by simp [map_erase f l k]
theorem mut_popAt : MutOk rPopAt mPopAt := by
  intro H L a ds as vs ds' z Q hl s h q
  unfold mPopAt at h
  split at h
  · rename_i i
    split at h
    · rename_i c
      split at h
      · rename_i k hk
        split at h
        · rename_i d hd
          cases h
          match vs, hl with
          | [v], _ =>
            obtain ⟨b, ws, ev, ha, pk⟩ := s.pk.lst
            cases ev
            have e1 : v = .int i := (SI.pkm s (by simp)).atm
            subst e1
            obtain ⟨w, hw, _⟩ := pk.2 k z hd
            simp only [Bool.and_eq_true, decide_eq_true_eq] at c
            refine ⟨a, ws, i, k, w, rfl, rfl, ha, c.1, c.2, by rw [← pk.1]; exact hk, hw, q w _ ?_⟩
            refine SI.write (M' := (z, some w) :: L) (R := [(.atm (.int i), some (.int i))]) s ha (by
              rw [List.length_eraseIdx, List.length_eraseIdx, pk.1]) ?_
            rw [map_erase, zip_erase]
            have g := zip_get (e := ds) (σ := ws.map some) (i := k) (d := z) (o := some w) hd (by simp [hw])
            have p1 := erase_perm g
            show (ds.zip (ws.map some) ++ ((.atm (.int i), some (.int i)) :: L)).Perm _
            refine (p1.append_right _).trans ?_
            show ((z, some w) :: ((ds.zip (ws.map some)).eraseIdx k ++ ((.atm (.int i), some (.int i)) :: L))).Perm _
            refine List.Perm.trans ?_ (List.perm_append_comm)
            show ((z, some w) :: ((ds.zip (ws.map some)).eraseIdx k ++ ((.atm (.int i), some (.int i)) :: L))).Perm ((.atm (.int i), some (.int i)) :: ((ds.zip (ws.map some)).eraseIdx k ++ (z, some w) :: L))
            refine (List.perm_middle.cons _).trans ((List.Perm.swap _ _ _).trans (List.Perm.cons _ ?_))
            exact List.perm_middle.symm
        · cases h
      · cases h
    · cases h
  · cases h
def mIns : List D → List D → Option (List D × D) := fun ds as => match as with
  | [.atm (.int i), d] => if decide (ds.length < 16777216) && decide (0 ≤ i) && decide (i < 2 ^ 63) then some (ds.take i.toNat ++ [d] ++ ds.drop i.toNat, .atm .non) else none
  | _ => none
abbrev rIns : V → List V → Hp → VK → Prop := fun x vs H Q => ∃ (l : Addr) (xs : List V) (i : Int) (y : V), x = .ref l ∧ vs = [.int i, y] ∧ H l = some (.lst xs) ∧ xs.length < sizeLine ∧ 0 ≤ i ∧ i < 2 ^ 63 ∧ Q .non (upd H l (.lst (xs.take i.toNat ++ [y] ++ xs.drop i.toNat)))
theorem zip_take {α β : Type} (xs : List α) (ys : List β) (k : Nat) : (xs.take k).zip (ys.take k) = (xs.zip ys).take k := by
  rw [List.zip_eq_zipWith, List.zip_eq_zipWith, List.take_zipWith]
theorem zip_drop {α β : Type} (xs : List α) (ys : List β) (k : Nat) : (xs.drop k).zip (ys.drop k) = (xs.zip ys).drop k := by
  rw [List.zip_eq_zipWith, List.zip_eq_zipWith, List.drop_zipWith]
theorem mut_ins : MutOk rIns mIns := by
  intro H L a ds as vs ds' z Q hl s h q
  unfold mIns at h
  split at h
  · rename_i i d
    split at h
    · rename_i c
      cases h
      match vs, hl with
      | [v, w], _ =>
        obtain ⟨b, ws, ev, ha, pk⟩ := s.pk.lst
        cases ev
        have e1 : v = .int i := (SI.pkm s (by simp)).atm
        subst e1
        simp only [Bool.and_eq_true, decide_eq_true_eq] at c
        refine ⟨a, ws, i, w, rfl, rfl, ha, by rw [← pk.1, sizeLine_eq]; exact c.1.1, c.1.2, c.2, q .non _ ?_⟩
        have := SI.write (ds' := ds.take i.toNat ++ [d] ++ ds.drop i.toNat) (vs' := ws.take i.toNat ++ [w] ++ ws.drop i.toNat) (M' := L) (R := [(.atm (.int i), some (.int i))]) s ha (by simp [pk.1]) (by
          rw [List.map_append, List.map_append, List.zip_append (by simp [pk.1]), List.zip_append (by simp [pk.1]), List.map_take, List.map_drop, zip_take, zip_drop]
          show (ds.zip (ws.map some) ++ ((.atm (.int i), some (.int i)) :: (d, some w) :: L)).Perm _
          refine List.Perm.trans ?_ (List.perm_append_comm)
          refine List.perm_middle.trans (List.Perm.cons _ ?_)
          refine List.perm_middle.trans ?_
          have e := List.take_append_drop i.toNat (ds.zip (ws.map some))
          conv => lhs; rw [← e]
          show ((d, some w) :: ((ds.zip (ws.map some)).take i.toNat ++ (ds.zip (ws.map some)).drop i.toNat ++ L)).Perm _
          rw [List.append_assoc, List.append_assoc, List.append_assoc]
          exact List.perm_middle.symm)
        exact (this.atm nr_non).perm (List.Perm.swap _ _ _)
    · cases h
  · cases h
def mRev : List D → List D → Option (List D × D) := fun ds as => match as with
  | [] => some (ds.reverse, .atm .non)
  | _ => none
theorem zip_rev {α β : Type} {xs : List α} {ys : List β} (h : xs.length = ys.length) : xs.reverse.zip ys.reverse = (xs.zip ys).reverse := by
  rw [List.zip_eq_zipWith, List.zip_eq_zipWith, List.reverse_zipWith h]
theorem mut_rev : MutOk rReverse mRev := by
  intro H L a ds as vs ds' z Q hl s h q
  unfold mRev at h
  split at h
  · cases h
    match vs, hl with
    | [], _ =>
      obtain ⟨b, ws, ev, ha, pk⟩ := s.pk.lst
      cases ev
      refine ⟨a, ws, rfl, rfl, ha, q .non _ ?_⟩
      have := SI.write (ds' := ds.reverse) (vs' := ws.reverse) (M' := L) (R := []) s ha (by simp [pk.1]) (by
        rw [List.map_reverse, zip_rev (by simpa using pk.1), List.append_nil]
        exact (List.reverse_perm _).symm.append_right _)
      exact (this.atm nr_non).perm (List.Perm.swap _ _ _)
  · cases h
/-- x[k] = e, x our own list -/
def sSub (i : Nat) (fi fv : Ev) : Sv := fun e => (fv e).bind fun r e1 => match r with
  | .slot _ => .no
  | .val d => match e1[i]? with
    | some (.lst true _) => (fi e1).bind fun ri e2 => match e2[i]?, peek ri e2 with
      | some (.lst true ds), some (.atm (.int k)) => match ixN ds.length k with
        | some j => .ok .nx (e2.set i (.lst true (ds.set j d)))
        | none => .no
      | _, _ => .no
    | _ => .no
theorem zip_set2 {α β : Type} : ∀ (xs : List α) (ys : List β) (k : Nat) (x : α) (y : β), (xs.set k x).zip (ys.set k y) = (xs.zip ys).set k (x, y)
  | [], ys, k, x, y => by simp
  | a :: xs, [], k, x, y => by cases k <;> simp
  | a :: xs, b :: ys, 0, x, y => rfl
  | a :: xs, b :: ys, k + 1, x, y => by simp [zip_set2 xs ys k x y]
theorem sj_sub {i : Nat} {x : Str} {ie ve : Expr} {fi fv : Ev} {pos p1 p2 : Pos} (hN : X.N[i]? = some x) (hv : Vis X.env.scope x) (hi : EJ X W ie fi) (hve : EJ X W ve fv) (hd : (x == ("__debug__" : Str)) = false := by decide) (hcd : (x == ("__classdict__" : Str)) = false := by decide)
    (hs : swapsWithSole [.Subscript (.Name x p1) ie p2] ve pos.line X.env = pure false := by rfl) (hw : swappedStores [.Subscript (.Name x p1) ie p2] ve X.env = pure none := by rfl)
    (h1 : (assignEach [.Subscript (.Name x p1) ie p2] X.env).map (·.2) = [assign (.Subscript (.Name x p1) ie p2) X.env] := by rfl) (ha : ∀ v, assign (.Subscript (.Name x p1) ie p2) X.env v = (do
      let ov ← holding [v] (eval (.Name x p1) X.env)
      let iv ← holding [v, ov] (eval ie X.env)
      standAt p2
      holding [v, ov, iv] (setItem ov iv v)
      release [v, ov, iv] []) := by intro _; rfl) :
    SJ X W P (.Assign [.Subscript (.Name x p1) ie p2] ve pos) (sSub i fi fv) := by
  obtain ⟨ti, pi, ki⟩ := hi
  obtain ⟨tv, pv, kv⟩ := hve
  refine ⟨_, ps_asg pv (pg_sub (pe_var hN hv hd hcd) pi set_list ha) hs hw h1, ?_⟩
  intro env σ K H Dn s h
  refine kv env σ K H _ s (MPost.mono (SPost.bind0 h) fun r e1 h1 w H1 s1 o1 => ?_)
  cases r with
  | slot j => exact h1.elim
  | val d =>
    simp only at h1
    split at h1
    · rename_i ds0 hd0
      obtain ⟨v, hvs⟩ := slot_some s1 hd0 rfl
      refine ⟨v, hvs, ki e1 σ ((d, some w) :: K) H1 _ s1 (MPost.mono (SPost.bind (K0 := [(d, some w)]) h1) fun ri e2 h2 y H2 s2 o2 => ?_)⟩
      split at h2
      · rename_i ds k hds hk
        split at h2
        · rename_i j hj
          have my := mem_peek (L := ri.ent y ++ ((d, some w) :: K) ++ e2.zip σ) (e := e2) (σ := σ) o2 (fun p hp => by simp [hp]) (fun p hp => by simp [hp]) hk
          have ey := (s2.si.pkm my).atm
          subst ey
          have s3 : Stt H2 ((d, some w) :: K) e2 σ := s2.drops
          have s4 := Stt.swap (y := .jnk) (o := some v) ⟨s3.len, SI.jnk s3.si⟩ hds hvs
          obtain ⟨a, ws, ev, hh, pk⟩ := s4.si.pk.lst
          subst ev
          refine ⟨a, ws, k, j, rfl, rfl, hh, by rw [← pk.1]; exact hj, h2 σ _ Pin.refl ?_⟩
          have hjl : j < ds.length := (ixN_seq hj).2.1
          have s5 := SI.write (ds' := ds.set j d) (vs' := ws.set j w) (M' := K ++ (e2.set i .jnk).zip σ) (R := [(ds[j], some (ws[j]'(by rw [← pk.1]; exact hjl)))]) s4.si hh (by simp [pk.1]) (by
            rw [List.map_set, zip_set2]
            have g := zip_get (e := ds) (σ := ws.map some) (i := j) (d := ds[j]) (o := some (ws[j]'(by rw [← pk.1]; exact hjl))) (List.getElem?_eq_getElem hjl) (by simp [pk.1 ▸ hjl])
            have p1 := set_perm (y := (d, some w)) g
            show (ds.zip (ws.map some) ++ ((d, some w) :: (K ++ (e2.set i .jnk).zip σ))).Perm _
            refine List.perm_middle.trans ?_
            refine List.Perm.trans ?_ (List.perm_append_comm)
            show (((d, some w) :: ds.zip (ws.map some)) ++ (K ++ (e2.set i .jnk).zip σ)).Perm (_ :: ((ds.zip (ws.map some)).set j (d, some w) ++ (K ++ (e2.set i .jnk).zip σ)))
            exact p1.append_right _)
          have s6 : Stt _ ((.lst true (ds.set j d), some (.ref a)) :: K) (e2.set i .jnk) σ := ⟨by rw [List.length_set]; exact s3.len, s5⟩
          have hi' : i < (e2.set i D.jnk).length := by
            rw [List.length_set]; exact (List.getElem?_eq_some_iff.mp hds).1
          have s7 := s6.put hi'
          rw [set_self hvs, List.set_set] at s7
          exact s7
        · exact h2.elim
      · exact h2.elim
    · exact h1.elim
end VS
set_option Elab.async false
set_option linter.all false
set_option maxRecDepth 100000
namespace VS
open PySem PySem.Spec PyProof.Rows L2
variable {X : Cx} {W : WX} {P : List Nat}

/-! ### comprehensions -/
def tE (W : WX) (f : Ev) : TE := fun σ H Q => ∃ env K, Stt H K env σ ∧ MPost W K σ (fun r e => ∀ v H', Stt H' (r.ent v ++ K) e σ → r.ok σ v → Q v H') (f env)
theorem EJ.pe {e : Expr} {f : Ev} (h : EJ X W e f) : PE X e (tE W f) := by
  obtain ⟨t, p, k⟩ := h
  exact ⟨fun pins s σ H Q I ⟨env, K, st, m⟩ => p.run pins s σ H Q I (k env σ K H Q st m)⟩
structure TsJ (X : Cx) (W : WX) (es : List Expr) (f : Tv) : Prop where
  ex : ∃ t, PTs X es t ∧ TOk W t f
def tT : Tv := fun e => .ok true e
theorem tsj_nil : TsJ X W [] tT := ⟨_, pts_nil, fun env σ K H Q s h => h H s⟩
theorem tsj_one {c : Expr} {f : Tv} (h : TJ X W c f) : TsJ X W [c] f := by
  obtain ⟨t, p, k⟩ := h
  exact ⟨_, pts_one p, k⟩
def tTs (W : WX) (f : Tv) : TT := fun σ H Q => ∃ env K, Stt H K env σ ∧ MPost W K σ (fun b e => ∀ H', Stt H' K e σ → Q b H') (f env)
theorem TsJ.pts {es : List Expr} {f : Tv} (h : TsJ X W es f) : PTs X es (tTs W f) := by
  obtain ⟨t, p, k⟩ := h
  exact ⟨fun pins s σ H Q I ⟨env, K, st, m⟩ => p.run pins s σ H Q I (k env σ K H Q st m)⟩
def tGs (P : List Nat) (g : Gv) : TG := fun v σ H Q => ∃ env K d e', Stt H ((d, some v) :: K) env σ ∧ g d env = some e' ∧ ∀ σ' H', Pin P σ σ' → Stt H' K e' σ' → Q σ' H'
theorem GJ.pg {tg : Expr} {g : Gv} (h : GJ X P tg g) : PG X tg (tGs P g) := by
  obtain ⟨t, p, k⟩ := h
  exact ⟨fun pins s σ H v u Q I r ⟨env, K, d, e', st, he, q⟩ => p.run pins s σ H v u Q I r (k env σ K H v d e' Q st he q)⟩
def WF : WX := fun _ _ _ _ => False
def noEr {α : Type} : M α → M α
  | .er _ _ => .no
  | m => m
@[simp] theorem noEr_ok {α : Type} (a : α) (e : EnvD) : noEr (.ok a e) = .ok a e := rfl
@[simp] theorem noEr_no {α : Type} : noEr (.no : M α) = .no := rfl
@[simp] theorem noEr_er {α : Type} (x : Exn) (e : EnvD) : noEr (.er x e : M α) = .no := rfl
def wipeE (e : EnvD) : List Nat → EnvD
  | [] => e
  | v :: vs => (wipeE e vs).set v .jnk
theorem wipeE_length (e : EnvD) : ∀ vs, (wipeE e vs).length = e.length
  | [] => rfl
  | v :: vs => by unfold wipeE; rw [List.length_set, wipeE_length e vs]
theorem Stt.putJ {H : Hp} {K : List Ent} {e : EnvD} {σ : L2.St} (s : Stt H K e σ) (i : Nat) : Stt H K (e.set i .jnk) (σ.set i none) := by
  by_cases c : i < e.length
  · exact Stt.put (o := none) ⟨s.len, SI.jnk s.si⟩ c
  · rw [List.set_eq_of_length_le (by omega), List.set_eq_of_length_le (by rw [← s.len]; omega)]
    exact s
theorem Stt.wipe {H : Hp} {K : List Ent} {e : EnvD} {σ : L2.St} (s : Stt H K e σ) : ∀ vs, Stt H K (wipeE e vs) (L2.wipe σ vs)
  | [] => s
  | v :: vs => (Stt.wipe s vs).putJ v
theorem jchange {H : Hp} : ∀ (e : EnvD) (σ σ' : L2.St) (L : List Ent), σ.length = σ'.length → (∀ i : Nat, (∃ d : D, e[i]? = some d ∧ isJ d = true) ∨ σ[i]? = σ'[i]?) → SI H (L ++ e.zip σ) → SI H (L ++ e.zip σ')
  | [], σ, σ', L, hl, h, s => by simpa using s
  | d :: e, [], [], L, hl, h, s => s
  | d :: e, [], _ :: _, L, hl, h, s => by cases hl
  | d :: e, _ :: _, [], L, hl, h, s => by cases hl
  | d :: e, o :: σ, o' :: σ', L, hl, h, s => by
    have s1 : SI H (((d, o) :: L) ++ e.zip σ) := s.perm List.perm_middle
    have s2 := jchange e σ σ' _ (by simpa using hl) (fun i => by simpa using h (i + 1)) s1
    have s3 : SI H (((d, o') :: L) ++ e.zip σ') := by
      rcases h 0 with ⟨x, e1, j⟩ | e1
      · have e1 : d = x := by simpa using e1
        subst e1
        cases d <;> first | exact SI.jnk s2.drop | cases j | skip
        obtain ⟨G, F, ⟨F1, F2, ef, r1, r2⟩, nd, gn, l⟩ := s2
        exact ⟨G, F, ⟨F1, F2, ef, by unfold Rep at r1 ⊢; exact r1, r2⟩, nd, gn, l⟩
      · have : o = o' := by simpa using e1
        subst this
        exact s2
    exact s3.perm List.perm_middle.symm
theorem wipeE_in {e : EnvD} : ∀ {vs : List Nat} {i : Nat}, i ∈ vs → i < e.length → (wipeE e vs)[i]? = some .jnk
  | v :: vs, i, h, hl => by
    unfold wipeE
    by_cases c : v = i
    · subst c
      rw [List.getElem?_set_self (by rw [wipeE_length]; exact hl)]
    · rw [List.getElem?_set_ne c]
      rcases List.mem_cons.mp h with z | z
      · exact absurd z.symm c
      · exact wipeE_in z hl
theorem wipe_in {σ : L2.St} : ∀ {vs : List Nat} {i : Nat}, i ∈ vs → i < σ.length → (L2.wipe σ vs)[i]? = some none
  | v :: vs, i, h, hl => by
    unfold L2.wipe
    by_cases c : v = i
    · subst c
      rw [List.getElem?_set_self (by rw [L2.wipe_length]; exact hl)]
    · rw [List.getElem?_set_ne c]
      rcases List.mem_cons.mp h with z | z
      · exact absurd z.symm c
      · exact wipe_in z hl
theorem Stt.unwipe {H : Hp} {K : List Ent} {e : EnvD} {σ : L2.St} {vs : List Nat} (s : Stt H K (wipeE e vs) (L2.wipe σ vs)) : Stt H K (wipeE e vs) σ := by
  have hl : e.length = σ.length := by have := s.len; rwa [wipeE_length, L2.wipe_length] at this
  refine ⟨by rw [wipeE_length]; exact hl, jchange _ _ _ _ (L2.wipe_length _ _) (fun i => ?_) s.si⟩
  by_cases c : i ∈ vs
  · by_cases d : i < e.length
    · exact .inl ⟨.jnk, wipeE_in c d, rfl⟩
    · refine .inr ?_
      rw [List.getElem?_eq_none (by rw [L2.wipe_length]; omega), List.getElem?_eq_none (by omega)]
  · exact .inr (L2.wipe_out c)
/-- the slots that a comprehension's target may not touch -/
def nP (vs : List Nat) : List Nat := (List.range 64).filter fun i => !vs.contains i
theorem wipe_same {σ σ2 : L2.St} {vs : List Nat} (hl : σ.length ≤ 64) (p : Pin (nP vs) (L2.wipe σ vs) σ2) : L2.wipe σ2 vs = L2.wipe σ vs := by
  have l : σ2.length = σ.length := by rw [p.1, L2.wipe_length]
  apply List.ext_getElem?
  intro i
  by_cases c : i ∈ vs
  · by_cases d : i < σ.length
    · rw [wipe_in c (by omega), wipe_in c d]
    · rw [List.getElem?_eq_none (by rw [L2.wipe_length]; omega), List.getElem?_eq_none (by rw [L2.wipe_length]; omega)]
  · rw [L2.wipe_out c]
    by_cases d : i < σ.length
    · exact p.2 i (List.mem_filter.mpr ⟨List.mem_range.mpr (by omega), by simpa using c⟩)
    · rw [List.getElem?_eq_none (by omega), List.getElem?_eq_none (by rw [L2.wipe_length]; omega)]
def lcD (g : Gv) (tt : Tv) (te : Ev) (vs : List Nat) : List D → List D → EnvD → M (List D)
  | [], acc, e => .ok acc e
  | d :: ds, acc, e => match g d e with
    | none => .no
    | some e1 => (noEr (tt e1)).bind fun b e2 => if b then (noEr (te e2)).bind fun r e3 => match r with
        | .val y => if acc.length < 16777216 then lcD g tt te vs ds (acc ++ [y]) (wipeE e3 vs) else .no
        | .slot _ => .no
      else lcD g tt te vs ds acc (wipeE e2 vs)
def eLc (fi : Iv) (g : Gv) (tt : Tv) (te : Ev) (vs : List Nat) : Ev := fun e => if e.length ≤ 64 then (fi e).bind fun ds e1 => (lcD g tt te vs ds [] (wipeE e1 vs)).bind fun acc e2 => .ok (.val (.lst true acc)) e2 else .no
theorem mpost_noEr {α : Type} {K : List Ent} {σ : L2.St} {Q : α → EnvD → Prop} {m : M α} (h : MPost WF K σ Q (noEr m)) : MPost WF K σ Q m := by
  cases m with
  | no => exact h
  | er x e => exact False.elim h
  | ok a e => exact h
theorem MPost.noErB {α β : Type} {K K' : List Ent} {σ σ' : L2.St} {Q : β → EnvD → Prop} {m : M α} {k : α → EnvD → M β} (h : MPost W K σ Q ((noEr m).bind k)) :
    MPost WF K' σ' (fun a e => MPost W K σ Q (k a e)) m := by
  cases m with
  | no => exact h
  | er x e => exact False.elim h
  | ok a e => exact h
abbrev LcPost (W : WX) (K : List Ent) (σ : L2.St) (Q : VK) : M R → Prop := MPost W K σ fun (r : R) (e : EnvD) => ∀ v H', Stt H' (r.ent v ++ K) e σ → r.ok σ v → Q v H'
theorem eok_lc {wi : TI} {fi : Iv} {g : Gv} {tt : Tv} {te : Ev} {vs : List Nat} (hi : IOk W wi fi) : EOk W (tLc wi (tGs (nP vs) g) (tTs WF tt) (tE WF te) vs) (eLc fi g tt te vs) := by
  intro env σ K H Q s h
  unfold eLc at h
  split at h
  case isFalse => exact h.elim
  rename_i hlen
  refine hi env σ K H _ s (MPost.mono (MPost.bind0 h) fun ds e1 h1 J H1 K' s1 js Da hDa => ?_)
  have h64 : σ.length ≤ 64 := by rw [← s.len]; exact hlen
  have fin : ∀ (i : Nat) (acc : List D) (e : EnvD) (H' : Hp), i = ds.length → LcPost W K σ Q ((lcD g tt te vs (ds.drop i) acc e).bind fun acc e2 => .ok (R.val (.lst true acc)) e2) →
      (∃ e0, e = wipeE e0 vs) → Stt H' (K' ++ ((.lst true acc, some (.ref Da)) :: K)) e (L2.wipe σ vs) → Q (.ref Da) H' := by
    rintro i acc e H' hi' hq ⟨e0, rfl⟩ hs
    subst hi'
    rw [List.drop_eq_nil_of_le (Nat.le_refl _)] at hq
    exact hq _ H' (hs.drops.unwipe) trivial
  refine ⟨fun i m H' => m = ds.length - i ∧ i ≤ ds.length ∧ ∃ e acc, (∃ e0, e = wipeE e0 vs) ∧ Stt H' (K' ++ ((.lst true acc, some (.ref Da)) :: K)) e (L2.wipe σ vs) ∧
      LcPost W K σ Q ((lcD g tt te vs (ds.drop i) acc e).bind fun acc e2 => .ok (R.val (.lst true acc)) e2), ⟨ds.length, by simp, Nat.zero_le _, wipeE e1 vs, [], ⟨e1, rfl⟩, ?_, by simpa using h1⟩, ?_⟩
  · have s2 := s1.wipe vs
    refine ⟨s2.len, ?_⟩
    have s3 : SI (upd H1 Da (.lst [])) ((.lst true [], some (.ref Da)) :: ((K' ++ K) ++ (wipeE e1 vs).zip (L2.wipe σ vs))) := SI.newL (ds := []) (vs := []) s2.si rfl hDa
    refine s3.perm ?_
    rw [List.append_assoc, List.append_assoc]
    exact List.perm_middle.symm
  · rintro i m H2 ⟨rfl, hi', e, acc, he0, s2, q⟩
    have s2' : SI H2 (K' ++ (((.lst true acc, some (.ref Da)) :: K) ++ e.zip (L2.wipe σ vs))) := by have := s2.si; rwa [List.append_assoc] at this
    by_cases c : i < ds.length
    · refine .inr ?_
      have hd : ds[i]? = some ds[i] := List.getElem?_eq_getElem c
      obtain ⟨go, yl⟩ := (js i H2 _ s2').2 _ hd
      refine ⟨go, fun H' => i + 1 ≤ ds.length ∧ ∃ e acc, (∃ e0, e = wipeE e0 vs) ∧ Stt H' (K' ++ ((.lst true acc, some (.ref Da)) :: K)) e (L2.wipe σ vs) ∧
        LcPost W K σ Q ((lcD g tt te vs (ds.drop (i + 1)) acc e).bind fun acc e2 => .ok (R.val (.lst true acc)) e2), fun H' ⟨a1, a2⟩ => ⟨ds.length - (i + 1), by omega, rfl, a1, a2⟩, fun x H3 y => ?_⟩
      have s3 := yl x H3 y
      rw [List.drop_eq_getElem_cons c] at q
      unfold lcD at q
      cases ge : g ds[i] e with
      | none => rw [ge] at q; exact q.elim
      | some e3 =>
        rw [ge] at q
        simp only at q
        refine ⟨e, K' ++ ((.lst true acc, some (.ref Da)) :: K), ds[i], e3, ⟨s2.len, by simpa using s3⟩, ge, fun σ4 H4 pn4 s4 => ⟨wipe_same h64 pn4, ?_⟩⟩
        have ws := wipe_same h64 pn4
        refine ⟨e3, K' ++ ((.lst true acc, some (.ref Da)) :: K), s4, ?_⟩
        cases te1 : tt e3 with
        | no => rw [te1] at q; exact q.elim
        | er x e5 => rw [te1] at q; exact q.elim
        | ok b e5 =>
          rw [te1] at q
          simp only [noEr_ok, bind_ok] at q
          intro H5 s5
          cases b with
          | false =>
            rw [if_neg Bool.false_ne_true]
            simp only [Bool.false_eq_true, if_false] at q
            refine ⟨c, wipeE e5 vs, acc, ⟨e5, rfl⟩, ?_, q⟩
            have := s5.wipe vs
            rwa [ws] at this
          | true =>
            rw [if_pos rfl]
            simp only [if_true] at q
            refine ⟨e5, K' ++ ((.lst true acc, some (.ref Da)) :: K), s5, ?_⟩
            cases te2 : te e5 with
            | no => rw [te2] at q; exact q.elim
            | er x e6 => rw [te2] at q; exact q.elim
            | ok r e6 =>
              rw [te2] at q
              simp only [noEr_ok, bind_ok] at q
              intro v H6 s6 o6
              cases r with
              | slot j => exact q.elim
              | val yd =>
                simp only at q
                split at q
                case isFalse => exact q.elim
                rename_i hsz
                have s7 : SI H6 ((.lst true acc, some (.ref Da)) :: ((yd, some v) :: (K' ++ (K ++ e6.zip σ4)))) := s6.si.perm (by
                  show (((yd, some v) :: (K' ++ ((.lst true acc, some (.ref Da)) :: K))) ++ e6.zip σ4).Perm _
                  rw [List.cons_append, List.append_assoc, List.cons_append]
                  exact (List.perm_middle.cons _).trans (List.Perm.swap _ _ _))
                obtain ⟨b, wsv, ev, hh, pk⟩ := s7.pk.lst
                cases ev
                refine ⟨wsv, hh, by rw [← pk.1, sizeLine_eq]; exact hsz, c, wipeE e6 vs, acc ++ [yd], ⟨e6, rfl⟩, ?_, q⟩
                have s8 := SI.write (ds' := acc ++ [yd]) (vs' := wsv ++ [v]) (M' := K' ++ (K ++ e6.zip σ4)) (R := []) s7 hh (by simp [pk.1]) (by
                  rw [List.map_append, List.zip_append (by simpa using pk.1), List.append_nil]
                  show (acc.zip (wsv.map some) ++ ((yd, some v) :: _)).Perm _
                  simp)
                have s9 : Stt (upd H6 Da (.lst (wsv ++ [v]))) (K' ++ ((.lst true (acc ++ [yd]), some (.ref Da)) :: K)) e6 σ4 := ⟨s6.len, s8.perm (by
                  rw [List.append_assoc]
                  exact List.perm_middle.symm)⟩
                have := s9.wipe vs
                rwa [ws] at this
    · exact .inl ⟨(js i H2 _ s2').1 (by omega), fin i acc e H2 (by omega) q he0 s2⟩
section
variable {elt tg iter : Expr} {ifs : List Expr} {scope : Scope} {own : List (Str × Nat)} {pos : Pos} {fi : Iv} {g : Gv} {tt : Tv} {te : Ev} {vs : List Nat}
theorem ej_lc (hc : X.calm = true) (hN : X.N.Nodup) (hi : IJ X W tg iter fi) (ok : BlkOk X.N X.env.scope scope own) (hv : own.map (·.2) = vs)
    (hg : ∀ (s : Shared) (H : Hp) (C : Addr) (cl : List (Str × Addr)) (fp : List Addr), GJ (X.blk s H scope (compEnvC scope cl C X.env) fp) (nP vs) tg g)
    (ht : ∀ (s : Shared) (H : Hp) (C : Addr) (cl : List (Str × Addr)) (fp : List Addr), TsJ (X.blk s H scope (compEnvC scope cl C X.env) fp) WF ifs tt)
    (he : ∀ (s : Shared) (H : Hp) (C : Addr) (cl : List (Str × Addr)) (fp : List Addr), EJ (X.blk s H scope (compEnvC scope cl C X.env) fp) WF elt te)
    (hs : ∀ x, foldedSetIterable iter X.env x = pure x := by intro _; rfl) : EJ X W (.ListComp elt [⟨tg, iter, ifs, 0⟩] scope pos) (eLc fi g tt te vs) := by
  obtain ⟨wi, pi, ki⟩ := hi
  subst hv
  exact ⟨_, pe_lc hc hN pi ok (fun s H C cl fp => (hg s H C cl fp).pg) (fun s H C cl fp => (ht s H C cl fp).pts) (fun s H C cl fp => (he s H C cl fp).pe) hs, eok_lc ki⟩
theorem sj_setLc {i : Nat} {y : Str} {py spos : Pos} (hi' : P.contains i = false) (hc : X.calm = true) (hN : X.N.Nodup) (hy : X.N[i]? = some y) (hyl : X.env.scope.names.lookup y = some .local)
    (hsw : swapsWith (.ListComp elt [⟨tg, iter, ifs, 0⟩] scope pos) (some (.Name y py)) spos.line X.env = pure true) (hi : IJ X W tg iter fi) (ok : BlkOk X.N X.env.scope scope own) (hv : own.map (·.2) = vs)
    (hg : ∀ (s : Shared) (H : Hp) (C : Addr) (cl : List (Str × Addr)) (fp : List Addr), GJ (X.blk s H scope (compEnvC scope cl C X.env) fp) (nP vs) tg g)
    (ht : ∀ (s : Shared) (H : Hp) (C : Addr) (cl : List (Str × Addr)) (fp : List Addr), TsJ (X.blk s H scope (compEnvC scope cl C X.env) fp) WF ifs tt)
    (he : ∀ (s : Shared) (H : Hp) (C : Addr) (cl : List (Str × Addr)) (fp : List Addr), EJ (X.blk s H scope (compEnvC scope cl C X.env) fp) WF elt te)
    (hs : ∀ x, foldedSetIterable iter X.env x = pure x := by intro _; rfl) : SJ X W P (.Assign [.Name y py] (.ListComp elt [⟨tg, iter, ifs, 0⟩] scope pos) spos) (sAs (gN i) (eLc fi g tt te vs)) := by
  obtain ⟨wi, pi, ki⟩ := hi
  subst hv
  refine ⟨_, ps_setLc hc hN hy hyl hsw pi ok (fun s H C cl fp => (hg s H C cl fp).pg) (fun s H C cl fp => (ht s H C cl fp).pts) (fun s H C cl fp => (he s H C cl fp).pe) hs, sok_as (eok_lc ki) ?_⟩
  refine fun env σ K H v d e' Q s h q => ?_
  unfold gN at h
  split at h
  · rename_i c
    cases h
    exact q _ H (pin_set (fun z => by rw [List.contains_iff_mem.mpr z] at hi'; cases hi')) (s.put c)
  · cases h
end
end VS
set_option Elab.async false
set_option linter.all false
set_option maxRecDepth 100000
namespace VS
open PySem PySem.Spec PyProof.Rows L2
variable {X : Cx} {W : WX} {P : List Nat}

/-! ### fields -/
def fldD (f : Str) : List Str → List D → Option D
  | n :: ns, d :: ds => if f == n then some d else fldD f ns ds
  | _, _ => none
theorem fld_at {f : Str} : ∀ {ns : List Str} {ds : List D} {d : D}, fldD f ns ds = some d → ∃ i : Nat, ds[i]? = some d ∧ ∀ (vs : List V) (v : V), vs[i]? = some v → (ns.zip vs).lookup f = some v
  | [], ds, d, h => by simp [fldD] at h
  | n :: ns, [], d, h => by simp [fldD] at h
  | n :: ns, x :: ds, d, h => by
    unfold fldD at h
    by_cases c : (f == n) = true
    · rw [if_pos c] at h
      cases h
      refine ⟨0, rfl, fun vs v e => ?_⟩
      cases vs with
      | nil => cases e
      | cons w vs => cases e; simp [List.lookup, c]
    · rw [if_neg c] at h
      obtain ⟨i, e1, e2⟩ := fld_at h
      refine ⟨i + 1, by simpa using e1, fun vs v e => ?_⟩
      cases vs with
      | nil => cases e
      | cons w vs =>
        have c' : (f == n) = false := by simpa using c
        simp only [List.zip_cons_cons, List.lookup, c']
        exact e2 vs v (by simpa using e)
theorem no_fld {f : Str} : ∀ {ns : List Str} {vs : List V}, ns.contains f = false → (ns.zip vs).lookup f = none
  | [], vs, h => by simp
  | n :: ns, [], h => by simp
  | n :: ns, v :: vs, h => by
    simp only [List.contains_cons, Bool.or_eq_false_iff] at h
    simp only [List.zip_cons_cons, List.lookup, h.1]
    exact no_fld h.2
theorem SI.kidIm {H : Hp} {own : Bool} {c : Addr} {ns : List Str} {ds : List D} {v : V} {L : List Ent} (h : SI H L) (m : (.ins own c ns ds, some v) ∈ L) {f : Str} {d : D} (e : fldD f ns ds = some d) (fr : fzn d = true) :
    ∃ a dx fs w, v = .ref a ∧ H a = some (.ins c dx fs) ∧ fs.lookup f = some w ∧ SI H ((d, some w) :: L) := by
  obtain ⟨L', h', p⟩ := h.mem m
  obtain ⟨a, dx, vs, ev, ha, pk, hn⟩ := h'.pk.ins
  subst ev
  obtain ⟨i, e1, e2⟩ := fld_at e
  obtain ⟨w, e3, s1⟩ := h'.kidI ha (hn.trans pk.1) e1 fr
  exact ⟨a, dx, _, w, rfl, ha, e2 vs w e3, s1.perm (p.symm.cons _)⟩
def gFld (C : Addr) (f : Str) : D → Option D
  | .ins _ c ns ds => if c = C then match fldD f ns ds with
      | some d => if fzn d then some d else none
      | none => none
    else none
  | _ => none
theorem ej_fld {C : Addr} {f : Str} {o : Expr} {fo : Ev} {pos : Pos} (c : Cls X.K C) (n : NoAttr X.K C f) (ho : EJ X W o fo) (hb : attributeBase o f X.env (eval o X.env) = eval o X.env := by rfl) : EJ X W (.Attribute o f pos) (eU (gFld C f) fo) := by
  obtain ⟨t, p, k⟩ := ho
  refine ⟨_, pe_fld p hb, fun env σ K H Q s h => k env σ K H _ s (MPost.mono (MPost.bind0 h) fun ra e1 h1 x H1 s1 o1 => ?_)⟩
  cases px : peek ra e1 with
  | none => simp only [px] at h1; exact h1.elim
  | some dx =>
    simp only [px] at h1
    cases gz : gFld C f dx with
    | none => rw [gz] at h1; exact h1.elim
    | some z =>
      rw [gz] at h1
      have m := mem_peek (L := ra.ent x ++ K ++ e1.zip σ) (e := e1) (σ := σ) o1 (fun p hp => by simp [hp]) (fun p hp => by simp [hp]) px
      unfold gFld at gz
      split at gz
      · rename_i own c' ns ds
        split at gz
        · rename_i hc
          subst hc
          split at gz
          · rename_i d hd
            split at gz
            · rename_i fr
              cases gz
              obtain ⟨a, dx', fs, w, ev, ha, hl, s2⟩ := s1.si.kidIm m hd fr
              exact ⟨a, _, dx', fs, w, ev, ha, c, n, hl, h1 w H1 ⟨s1.len, SI.mid (A := [(z, some w)]) (B := ra.ent x) (L := K ++ e1.zip σ) (by simpa using s2)⟩ trivial⟩
            · cases gz
          · cases gz
        · cases gz
      · cases gz
def gCon (C : Addr) (f : Str) (v : V) : D → Option D
  | .ins _ c ns _ => if c = C && !ns.contains f then some (.atm v) else none
  | _ => none
theorem ej_con {C : Addr} {f : Str} {v : V} {u : Value} {o : Expr} {fo : Ev} {pos : Pos} (c : Cls X.K C) (n : Con X.K C f v u) (hv : NR v) (ho : EJ X W o fo) (hb : attributeBase o f X.env (eval o X.env) = eval o X.env := by rfl) : EJ X W (.Attribute o f pos) (eU (gCon C f v) fo) := by
  obtain ⟨t, p, k⟩ := ho
  refine ⟨_, pe_con p hb, fun env σ K H Q s h => k env σ K H _ s (MPost.mono (MPost.bind0 h) fun ra e1 h1 x H1 s1 o1 => ?_)⟩
  cases px : peek ra e1 with
  | none => simp only [px] at h1; exact h1.elim
  | some dx =>
    simp only [px] at h1
    cases gz : gCon C f v dx with
    | none => rw [gz] at h1; exact h1.elim
    | some z =>
      rw [gz] at h1
      have m := mem_peek (L := ra.ent x ++ K ++ e1.zip σ) (e := e1) (σ := σ) o1 (fun p hp => by simp [hp]) (fun p hp => by simp [hp]) px
      unfold gCon at gz
      split at gz
      · rename_i own c' ns ds
        split at gz
        · rename_i hc
          simp only [Bool.and_eq_true, decide_eq_true_eq, Bool.not_eq_true'] at hc
          obtain ⟨hc, hnn⟩ := hc
          subst hc
          cases gz
          obtain ⟨a, dx', vs, ev, ha, pk, hn⟩ := (s1.si.pkm m).ins
          exact ⟨a, _, dx', _, v, u, ev, ha, c, n, no_fld hnn, h1 v H1 ⟨s1.len, (SI.drops (M := ra.ent x) (by have := s1.si; rwa [List.append_assoc] at this)).atm hv⟩ trivial⟩
        · cases gz
      · cases gz
/-! ### x.f = e, x our own instance, f new -/
theorem putF_new {f : Str} {v : V} : ∀ {ns : List Str} {vs : List V}, ns.contains f = false → ns.length = vs.length → putF f v (ns.zip vs) = (ns ++ [f]).zip (vs ++ [v])
  | [], [], h, l => rfl
  | [], _ :: _, h, l => by cases l
  | _ :: _, [], h, l => by cases l
  | n :: ns, w :: vs, h, l => by
    simp only [List.contains_cons, Bool.or_eq_false_iff] at h
    have c : n ≠ f := fun z => by rw [z] at h; simp at h
    show (if n = f then (n, v) :: ns.zip vs else (n, w) :: putF f v (ns.zip vs)) = _
    rw [if_neg c, putF_new h.2 (by simpa using l)]
    rfl
theorem SI.addF {H : Hp} {c dx : Addr} {ns : List Str} {ds : List D} {d : D} {v : V} {a : Addr} {f : Str} {fs : List (Str × V)} {L : List Ent} (h : SI H ((d, some v) :: (.ins true c ns ds, some (.ref a)) :: L)) (ha : H a = some (.ins c dx fs)) (hf : ns.contains f = false) :
    SI (upd H a (.ins c dx (putF f v fs))) ((.ins true c (ns ++ [f]) (ds ++ [d]), some (.ref a)) :: L) := by
  obtain ⟨G, F, ⟨F0, F9, e0, r0, F1, F2, ef, r1, r2⟩, nd, gn, l⟩ := h
  unfold Rep at r1
  obtain ⟨b, dx', ws, F3, eb, r3, hn, lo⟩ := r1
  cases eb
  obtain ⟨hb, ef1⟩ := lo
  rw [ha] at hb
  cases hb
  obtain ⟨r4, el⟩ := RepL.of_reps r3
  subst ef1
  subst ef
  subst e0
  have nd0 := List.nodup_append.mp nd
  have nd1 : (a :: (F3 ++ F2)).Nodup := nd0.2.1
  have nd2 := List.nodup_cons.mp nd1
  have na0 : a ∉ F0 := fun z => nd0.2.2 a z a (by show a ∈ a :: (F3 ++ F2); exact List.mem_cons_self) rfl
  have na3 : a ∉ F3 := fun z => nd2.1 (List.mem_append_left _ z)
  have na2 : a ∉ F2 := fun z => nd2.1 (List.mem_append_right _ z)
  have cg : ∀ F : List Addr, a ∉ F → ∀ x ∈ F, upd H a (.ins c dx (putF f v (ns.zip ws))) x = H x := fun F hF x hx => upd_ne fun z => hF (by rw [← z]; exact hx)
  have r5 : RepL G (upd H a (.ins c dx (putF f v (ns.zip ws)))) (ds.zip (ws.map some)) F3 := RepL.mono (fun _ _ z => z) _ _ r4 (cg _ na3)
  have r6 := RepL.mono (fun _ _ z => z) _ _ r2 (cg _ na2)
  have r7 := Rep.mono (fun _ _ z => z) _ _ _ r0 (cg _ na0)
  have pm : (F0 ++ (a :: F3 ++ F2)).Perm ((a :: (F3 ++ F0)) ++ F2) := by
    show (F0 ++ (a :: (F3 ++ F2))).Perm (a :: ((F3 ++ F0) ++ F2))
    refine List.perm_middle.trans (List.Perm.cons _ ?_)
    rw [← List.append_assoc]
    exact List.perm_append_comm.append_right _
  refine ⟨G, (a :: (F3 ++ F0)) ++ F2, ⟨a :: (F3 ++ F0), F2, rfl, ?_, r6⟩, pm.nodup_iff.mp nd, fun x hx => gn x (pm.mem_iff.mpr hx), fun x o ex => ?_⟩
  · unfold Rep
    refine ⟨a, dx, ws ++ [v], F3 ++ F0, rfl, Reps.of_repl ?_ (by simp [el]), by simp [hn], ?_, rfl⟩
    · rw [List.map_append, List.zip_append (by simpa using el)]
      exact RepL.append.mpr ⟨F3, F0, rfl, r5, F0, [], by simp, r7, rfl⟩
    · rw [upd_same, putF_new hf (hn.trans el)]
  · have cx : x ≠ a := fun z => by
      have := gn a (by show a ∈ F0 ++ (a :: F3 ++ F2); simp)
      rw [z, this] at ex; cases ex
    rw [upd_ne cx]; exact l x o ex
def sFw (i : Nat) (C : Addr) (f : Str) (fv : Ev) : Sv := fun e => (fv e).bind fun r e1 => match r with
  | .slot _ => .no
  | .val d => match e1[i]? with
    | some (.ins true c ns ds) => if decide (c = C) && decide (ns.length < 1000) && !ns.contains f then .ok .nx (e1.set i (.ins true c (ns ++ [f]) (ds ++ [fz d]))) else .no
    | _ => .no
theorem sj_fw {i : Nat} {C : Addr} {f x : Str} {ve : Expr} {fv : Ev} {p1 pos' pos : Pos} (c : Cls X.K C) (n : NoAttr X.K C f) (hN : X.N[i]? = some x) (hv : Vis X.env.scope x) (hve : EJ X W ve fv) (hd : (x == ("__debug__" : Str)) = false := by decide) (hcd : (x == ("__classdict__" : Str)) = false := by decide)
    (hs : swapsWith ve (some (.Attribute (.Name x p1) f pos')) pos.line X.env = pure false := by rfl) : SJ X W P (.Assign [.Attribute (.Name x p1) f pos'] ve pos) (sFw i C f fv) := by
  obtain ⟨t, p, k⟩ := hve
  refine ⟨_, ps_fld (pe_var hN hv hd hcd) p hs, fun env σ K H Dn s h => k env σ K H _ s (MPost.mono (SPost.bind0 h) fun r e1 h1 w H1 s1 o1 => ?_)⟩
  cases r with
  | slot j => exact h1.elim
  | val d =>
    simp only at h1
    split at h1
    · rename_i c' ns ds hd0
      split at h1
      · rename_i hc
        simp only [Bool.and_eq_true, decide_eq_true_eq, Bool.not_eq_true'] at hc
        obtain ⟨⟨hc, hl⟩, hnf⟩ := hc
        subst hc
        obtain ⟨v, hvs⟩ := slot_some s1 hd0 rfl
        have s2 : Stt H1 ((fz d, some w) :: K) e1 σ := ⟨s1.len, SI.fz s1.si⟩
        have s3 := Stt.swap (y := .jnk) (o := some v) ⟨s2.len, SI.jnk s2.si⟩ hd0 hvs
        obtain ⟨a, dx, vs, ev, ha, pk, hn⟩ := s3.si.pk.ins
        subst ev
        refine ⟨.ref a, hvs, a, _, dx, _, rfl, ha, c, n, by rw [List.length_zip]; omega, h1 σ _ Pin.refl ?_⟩
        have s4 : SI H1 ((fz d, some w) :: (.ins true c' ns ds, some (.ref a)) :: (K ++ (e1.set i .jnk).zip σ)) := s3.si.perm (List.Perm.swap _ _ _)
        have s5 := s4.addF (f := f) ha hnf
        have s6 : Stt _ ((.ins true c' (ns ++ [f]) (ds ++ [fz d]), some (.ref a)) :: K) (e1.set i .jnk) σ := ⟨by rw [List.length_set]; exact s1.len, s5⟩
        have hi' : i < (e1.set i D.jnk).length := by
          rw [List.length_set]; exact (List.getElem?_eq_some_iff.mp hd0).1
        have s7 := s6.put hi'
        rw [set_self hvs, List.set_set] at s7
        exact s7
      · exact h1.elim
    · exact h1.elim

/-! ### making, methods, properties -/
theorem SI.newI {H : Hp} {C x dx : Addr} {L : List Ent} (h : SI H L) (hx : H x = none) (hdx : H dx = none) (hne : dx ≠ x) : SI (upd (upd H dx (.own x)) x (.ins C dx [])) ((.ins true C [] [], some (.ref x)) :: L) := by
  have h1 : SI (upd H dx (.own x)) L := h.grow (le_upd hdx)
  have hx1 : (upd H dx (.own x)) x = none := by rw [upd_ne (Ne.symm hne)]; exact hx
  obtain ⟨G, F, r, nd, gn, l⟩ := h1
  have dm := RepL.dom _ _ r
  refine ⟨G, x :: F, ⟨[x], F, rfl, ?_, RepL.mono (fun _ _ z => z) _ F r fun a ha => upd_ne fun z => dm a ha (by rw [z]; exact hx1)⟩, List.nodup_cons.mpr ⟨fun z => dm x z hx1, nd⟩, ?_, fun a o e => le_upd hx1 a o (l a o e)⟩
  · unfold Rep
    exact ⟨x, dx, [], [], rfl, by unfold Reps; exact ⟨rfl, rfl⟩, rfl, upd_same, rfl⟩
  · intro a ha
    rcases List.mem_cons.mp ha with rfl | ha
    · cases e' : G a with
      | none => rfl
      | some o => have := l a o e'; rw [hx1] at this; cases this
    · exact gn a ha
section
variable {k n : Nat} {f C : Addr} {fd : FuncData} {ps : List Str} {sp : Sp} {E : L2.St → XK} {x m : Str} {p pos apos : Pos} {e o : Expr} {es : List Expr} {ta : TE} {t : TA} {CX : CXT}
def tMakeS (C : Addr) (sp : Sp) (E : L2.St → XK) (t : TA) : TE := fun σ H Q => t σ H fun vs H1 => ∀ x dx, H1 x = none → H1 dx = none → dx ≠ x →
  sp (.ref x :: vs) (upd (upd H1 dx (.own x)) x (.ins C dx [])) (fun v H2 => v = .non ∧ Q (.ref x) H2) (E σ)
theorem run_makeS {pins : List (Addr × Obj)} {σ : L2.St} {H : Hp} {s : Shared} {Q : VK} {us : List Value} {vs : List V} (M : Mk X.K C f) (F : FnOk X.prog X.w X.K X.mg X.base CX k f fd ps sp) (hr : Room (k + 1) X.A) (hb : Binds X.K fd ps [])
    (hx : PassesAt CX X σ (E σ)) (I : Inv X pins σ H s) (r : Vals vs us)
    (h : ∀ x dx, H x = none → H dx = none → dx ≠ x → sp (.ref x :: vs) (upd (upd H dx (.own x)) x (.ins C dx [])) (fun v H2 => v = .non ∧ Q (.ref x) H2) (E σ)) :
    wpAny (model X.prog X.w) X.A (call (.ref C) us) (EP X pins σ Q) X.xe s := by
  have hq := h (s.heap.objs.size + 1) s.heap.objs.size (I.hok.fresh (Nat.le_succ _)) (I.hok.fresh (Nat.le_refl _)) (Nat.ne_of_lt (Nat.lt_succ_self _))
  have I2 := Inv.made (C := C) I
  have r2 : Vals (V.ref (s.heap.objs.size + 1) :: vs) (Value.ref (s.heap.objs.size + 1) :: us) := .cons rfl r
  have hl : (Value.ref (s.heap.objs.size + 1) :: us).length = ps.length := by
    have e := r2.length
    rw [F.len _ _ _ _ hq] at e
    exact e.symm
  have b := hb _ (Value.ref (s.heap.objs.size + 1) :: us) I2.kIn (by rw [List.append_nil]; exact hl)
  rw [List.append_nil] at b
  refine wpAny_call (make_map (f := f) I.kIn M.makes M.init (beq_iff_eq.mp M.fn) (codeAny_mono (F.run _ X.stack _ _ ⟨Value.ref (s.heap.objs.size + 1) :: us, []⟩ (Value.ref (s.heap.objs.size + 1) :: us) _ _ (E σ) (hr.make C us [])
    (I2.env0.make C us []) b r2 hq) fun r s' hq' => ?_))
  cases r with
  | error e => exact hx pins _ _ e s' I2 hq'
  | ok fl =>
    cases fl with
    | ret u =>
      obtain ⟨v, H', I3, rv, ev, q3⟩ := I2.after hq'
      subst ev
      exact ⟨rv, ⟨V.ref (s.heap.objs.size + 1), H', I3, rfl, q3⟩⟩
    | next => exact False.elim hq'
    | brk => exact False.elim hq'
    | cont => exact False.elim hq'
theorem pe_makeS (M : Mk X.K C f) (F : FnOk X.prog X.w X.K X.mg X.base CX k f fd ps sp) (hr : Room (k + 1) X.A) (hg : Gl X x) (hm : X.mg x = some (.ref C)) (hb : Binds X.K fd ps []) (hx : ∀ σ, PassesAt CX X σ (E σ))
    (ha : PA X (e :: es) t) (hdb : (x == ("__debug__" : Str)) = false := by decide) (he : starEach (e :: es) X.env = (false, eval e X.env) :: starEach es X.env := by rfl) (hpl : (backTo pos (starEach es X.env)).any (·.1) = false := by rfl) :
    PE X (.Call (.Name x p) (e :: es) [] pos) (tMakeS C sp E t) := by
  refine ⟨fun pins s σ H Q I h => ?_⟩
  refine wpAny_Call_Name_kw (ld_glob I hg hm ?_ hdb)
  refine PySem.W.callWith_K (h₀ := X.base) I.ok.mod.kin M.kp (thn (ha.run pos pins s σ H _ I h) fun us s1 ⟨vs, H1, I1, r, q⟩ => ⟨I1.kIn, ?_⟩) he hpl
  exact run_makeS M F hr hb (hx σ) I1 r q
def tMethS (C : Addr) (m : Str) (sp : Sp) (E : L2.St → XK) (ta : TE) (t : TA) : TE := fun σ H Q => ta σ H fun x H1 => ∃ a dx fs, x = .ref a ∧ H1 a = some (.ins C dx fs) ∧ fs.lookup m = none ∧
  t σ H1 fun vs H2 => sp (x :: vs) H2 Q (E σ)
theorem pe_methS {pl : Sem Bool} (he : PE X o ta) (c : Cls X.K C) (hm : Meth X.K C m f) (F : FnOk X.prog X.w X.K X.mg X.base CX k f fd ps sp) (hr : Room k X.A) (hb : Binds X.K fd ps []) (hx : ∀ σ, PassesAt CX X σ (E σ)) (ha : PA X (e :: es) t)
    (hst : starEach (e :: es) X.env = (false, eval e X.env) :: starEach es X.env := by rfl) (hpl : (backTo pos (starEach es X.env)).any (·.1) = false := by rfl)
    (ht : eval (.Call (.Attribute o m apos) (e :: es) [] pos) X.env = (do
      let ov ← eval o X.env
      standAt apos.atName
      let (f, first) ← holding [ov] (getMethod ov m pl)
      callWith pos f first (backTo pos (starEach (e :: es) X.env)) (backToKw pos (keywordEach [] X.env))) := by rfl) :
    PE X (.Call (.Attribute o m apos) (e :: es) [] pos) (tMethS C m sp E ta t) := by
  refine ⟨fun pins s σ H Q I h => ?_⟩
  refine PySem.W.methodCall_KW (pl := pl) (thn (he.run pins s σ H _ I h) fun u s1 ⟨x, H1, I1, rx, a, dx, fs, ex, ea, l, q⟩ => ?_) ht
  subst ex
  obtain rfl : u = Value.ref a := rx
  refine getmeth_ok I1 ea c hm l ?_
  refine PySem.W.callWith_K (first := [.ref a]) (h₀ := X.base) I.ok.mod.kin hm.kp (thn (ha.run pos pins s1 σ H1 _ I1 q) fun us s2 ⟨vs, H2, I2, r, q2⟩ => ⟨I2.kIn, ?_⟩) hst hpl
  exact run_fnS (us := .ref a :: us) (vs := .ref a :: vs) F hr hb (hx σ) I2 (.cons rfl r) q2
theorem pe_methS0 {pl : Sem Bool} (he : PE X o ta) (c : Cls X.K C) (hm : Meth X.K C m f) (F : FnOk X.prog X.w X.K X.mg X.base CX k f fd ps sp) (hr : Room k X.A) (hb : Binds X.K fd ps []) (hx : ∀ σ, PassesAt CX X σ (E σ))
    (ht : eval (.Call (.Attribute o m apos) [] [] pos) X.env = (do
      let ov ← eval o X.env
      standAt apos.atName
      let (f, first) ← holding [ov] (getMethod ov m pl)
      callWith pos f first (backTo pos (starEach [] X.env)) (backToKw pos (keywordEach [] X.env))) := by rfl) :
    PE X (.Call (.Attribute o m apos) [] [] pos) (tMethS C m sp E ta tNil) := by
  refine ⟨fun pins s σ H Q I h => ?_⟩
  refine PySem.W.methodCall_KW (pl := pl) (thn (he.run pins s σ H _ I h) fun u s1 ⟨x, H1, I1, rx, a, dx, fs, ex, ea, l, q⟩ => ?_) ht
  subst ex
  obtain rfl : u = Value.ref a := rx
  refine getmeth_ok I1 ea c hm l ?_
  exact PySem.W.callWith_K0 (first := [.ref a]) I1.kIn hm.kp (run_fnS (us := [.ref a]) (vs := [.ref a]) F hr hb (hx σ) I1 (.cons rfl .nil) q)
end
/-- the end of a call -/
def callEnd (g : Fv) (rs : List R) (ds : List D) (e : EnvD) : M R := match g ds with
  | .no => .no
  | .er x _ => .er x e
  | .ok d fin => .ok (.val d) (putS rs fin e)
theorem call_end {n : Nat} {g : Fv} {σ : L2.St} {K : List Ent} {H : Hp} {Q : VK} {rs : List R} {vs : List V} {ds : List D} {e1 e2 : EnvD} (tk : takeS rs e1 = some (ds, e2)) (o : oks σ rs vs) (s : Stt H (ents rs vs ++ K) e1 σ) (hn : ds.length = n)
    (h : MPost W K σ (fun r e => ∀ v H', Stt H' (r.ent v ++ K) e σ → r.ok σ v → Q v H') (callEnd g rs ds e2)) : spD n g vs H Q (WE W σ) := by
  obtain ⟨s2, l⟩ := take_ok tk o s
  refine ⟨l.symm.trans hn, ds, K ++ e2.zip σ, l, by have := s2.si; rwa [List.append_assoc] at this, ?_⟩
  unfold callEnd at h
  cases ge : g ds with
  | no => rw [ge] at h; exact h.elim
  | er x e => rw [ge] at h; exact fun H' da s' => h H' da ⟨s2.len, s'⟩
  | ok d fin =>
    rw [ge] at h
    refine fun v H' s' => h v H' ?_ trivial
    have s3 : Stt H' (fin.zip (vs.map some) ++ ((d, some v) :: K)) e2 σ := ⟨s2.len, s'.perm (by
      rw [List.append_assoc]
      exact List.perm_middle.symm)⟩
    exact put_ok o s3
def eMeth (C : Addr) (m : Str) (n : Nat) (g : Fv) (fo : Ev) (fa : Av) : Ev := fun e => (fo e).bind fun ro e1 => match peek ro e1 with
  | some (.ins _ c ns _) => if decide (c = C) && !ns.contains m then (fa e1).bind fun rs e2 => match takeS (ro :: rs) e2 with
      | some (ds, e3) => if ds.length = n then callEnd g (ro :: rs) ds e3 else .no
      | none => .no
    else .no
  | _ => .no
theorem eok_meth {C : Addr} {m : Str} {n : Nat} {g : Fv} {fo : Ev} {fa : Av} {to : TE} {ta : TA} (ho : EOk W to fo) (ha : AOk W ta fa) : EOk W (tMethS C m (spD n g) (WE W) to ta) (eMeth C m n g fo fa) := by
  intro env σ K H Q s h
  refine ho env σ K H _ s (MPost.mono (MPost.bind0 h) fun ro e1 h1 x H1 s1 o1 => ?_)
  cases px : peek ro e1 with
  | none => simp only [px] at h1; exact h1.elim
  | some d =>
    simp only [px] at h1
    have mm := mem_peek (L := ro.ent x ++ K ++ e1.zip σ) (e := e1) (σ := σ) o1 (fun p hp => by simp [hp]) (fun p hp => by simp [hp]) px
    split at h1
    · rename_i own c ns ds0 hz
      cases hz
      split at h1
      · rename_i hc
        simp only [Bool.and_eq_true, decide_eq_true_eq, Bool.not_eq_true'] at hc
        obtain ⟨hc, hnf⟩ := hc
        subst hc
        obtain ⟨a, dx, vs0, ev, hh, pk, hn⟩ := (s1.si.pkm mm).ins
        subst ev
        refine ⟨a, dx, _, rfl, hh, no_fld hnf, ha e1 σ _ H1 _ s1 (MPost.mono (MPost.bind (K0 := ro.ent (.ref a)) h1) fun rs e2 h2 vs H2 s2 o2 => ?_)⟩
        cases tk : takeS (ro :: rs) e2 with
        | none => simp only [tk] at h2; exact h2.elim
        | some z =>
          obtain ⟨ds, e3⟩ := z
          simp only [tk] at h2
          split at h2
          · rename_i hl
            refine call_end (rs := ro :: rs) (vs := .ref a :: vs) tk ⟨o1, o2⟩ (s2.perm ?_) hl h2
            show (ents rs vs ++ (ro.ent (.ref a) ++ K)).Perm (ro.ent (.ref a) ++ ents rs vs ++ K)
            rw [← List.append_assoc]
            exact List.perm_append_comm.append_right _
          · exact h2.elim
      · exact h1.elim
    · exact h1.elim
section
variable {k n : Nat} {f C : Addr} {fd : FuncData} {ps : List Str} {g : Fv} {x m : Str} {p pos apos : Pos} {e o : Expr} {es : List Expr} {fo : Ev} {fa : Av}
theorem ej_meth {pl : Sem Bool} (tk : Takes X W) (c : Cls X.K C) (hm : Meth X.K C m f) (F : FnOk X.prog X.w X.K X.mg X.base (L2.CX X.prog X.w) k f fd ps (spD n g)) (hr : Room k X.A) (hb : Binds X.K fd ps []) (ho : EJ X W o fo) (ha : AJ X W (e :: es) fa)
    (hst : starEach (e :: es) X.env = (false, eval e X.env) :: starEach es X.env := by rfl) (hpl : (backTo pos (starEach es X.env)).any (·.1) = false := by rfl)
    (ht : eval (.Call (.Attribute o m apos) (e :: es) [] pos) X.env = (do
      let ov ← eval o X.env
      standAt apos.atName
      let (f, first) ← holding [ov] (getMethod ov m pl)
      callWith pos f first (backTo pos (starEach (e :: es) X.env)) (backToKw pos (keywordEach [] X.env))) := by rfl) :
    EJ X W (.Call (.Attribute o m apos) (e :: es) [] pos) (eMeth C m n g fo fa) := by
  obtain ⟨t, q, kk⟩ := ho
  obtain ⟨t', q', kk'⟩ := ha
  exact ⟨_, pe_methS q c hm F hr hb (fun σ => passAt tk σ) q' hst hpl ht, eok_meth kk kk'⟩
theorem ej_meth0 {pl : Sem Bool} (tk : Takes X W) (c : Cls X.K C) (hm : Meth X.K C m f) (F : FnOk X.prog X.w X.K X.mg X.base (L2.CX X.prog X.w) k f fd ps (spD n g)) (hr : Room k X.A) (hb : Binds X.K fd ps []) (ho : EJ X W o fo)
    (ht : eval (.Call (.Attribute o m apos) [] [] pos) X.env = (do
      let ov ← eval o X.env
      standAt apos.atName
      let (f, first) ← holding [ov] (getMethod ov m pl)
      callWith pos f first (backTo pos (starEach [] X.env)) (backToKw pos (keywordEach [] X.env))) := by rfl) :
    EJ X W (.Call (.Attribute o m apos) [] [] pos) (eMeth C m n g fo aNil) := by
  obtain ⟨t, q, kk⟩ := ho
  exact ⟨_, pe_methS0 q c hm F hr hb (fun σ => passAt tk σ) ht, eok_meth kk (ta := tNil) (fun env σ K H Q s h => h [] H s trivial)⟩
/-- C(..) -/
def eMake (C : Addr) (n : Nat) (g : Fv) (fa : Av) : Ev := fun e => (fa e).bind fun rs e1 => match takeS rs e1 with
  | some (ds, e2) => if ds.length + 1 = n then match g (.ins true C [] [] :: ds) with
      | .no => .no
      | .er x _ => .er x e2
      | .ok (.atm .non) (d :: fin) => .ok (.val d) (putS rs fin e2)
      | _ => .no
    else .no
  | none => .no
theorem ej_make {fI : Addr} (tk : Takes X W) (M0 : Mk X.K C fI) (F : FnOk X.prog X.w X.K X.mg X.base (L2.CX X.prog X.w) k fI fd ps (spD n g)) (hr : Room (k + 1) X.A) (hg : Gl X x) (hm : X.mg x = some (.ref C)) (hb : Binds X.K fd ps [])
    (ha : AJ X W (e :: es) fa) (hdb : (x == ("__debug__" : Str)) = false := by decide) (he : starEach (e :: es) X.env = (false, eval e X.env) :: starEach es X.env := by rfl) (hpl : (backTo pos (starEach es X.env)).any (·.1) = false := by rfl) :
    EJ X W (.Call (.Name x p) (e :: es) [] pos) (eMake C n g fa) := by
  obtain ⟨t, q, kk⟩ := ha
  refine ⟨_, pe_makeS M0 F hr hg hm hb (fun σ => passAt tk σ) q hdb he hpl, fun env σ K H Q s h => ?_⟩
  refine kk env σ K H _ s (MPost.mono (MPost.bind0 h) fun rs e1 h1 vs H1 s1 o1 => ?_)
  cases tk : takeS rs e1 with
  | none => simp only [tk] at h1; exact h1.elim
  | some z =>
    obtain ⟨ds, e2⟩ := z
    simp only [tk] at h1
    obtain ⟨s2, l⟩ := take_ok tk o1 s1
    split at h1
    · rename_i hn
      intro y dy hy hdy hne
      have s3 : SI H1 (ds.zip (vs.map some) ++ (K ++ e2.zip σ)) := by have := s2.si; rwa [List.append_assoc] at this
      have s4 := SI.newI (C := C) s3 hy hdy hne
      refine ⟨by simp [← l, hn], .ins true C [] [] :: ds, K ++ e2.zip σ, by simp [l], s4, ?_⟩
      cases ge : g (.ins true C [] [] :: ds) with
      | no => rw [ge] at h1; exact h1.elim
      | er xx ee => rw [ge] at h1; exact fun H' da s' => h1 H' da ⟨s2.len, s'⟩
      | ok d fin =>
        rw [ge] at h1
        intro v H' s'
        split at h1
        · rename_i hq; cases hq
        · rename_i hq; cases hq
        · rename_i d' fin' hq
          cases hq
          refine ⟨s'.pk.atm, h1 (.ref y) H' ?_ trivial⟩
          have s5 : SI H' ((d', some (.ref y)) :: (fin'.zip (vs.map some) ++ (K ++ e2.zip σ))) := s'.drop
          have s6 : Stt H' (fin'.zip (vs.map some) ++ ((d', some (.ref y)) :: K)) e2 σ := ⟨s2.len, s5.perm (by
            rw [List.append_assoc]
            exact List.perm_middle.symm)⟩
          exact put_ok o1 s6
        · exact h1.elim
    · exact h1.elim
/-- a property -/
def eProp (C : Addr) (g : Fv) (fo : Ev) : Ev := fun e => (fo e).bind fun ro e1 => match takeS [ro] e1 with
  | some ([.ins own c ns ds], e2) => if c = C then match g [.ins own c ns ds] with
      | .ok d fin => .ok (.val d) (putS [ro] fin e2)
      | _ => .no
    else .no
  | _ => .no
theorem ej_prop {pp gg : Addr} (c : Cls X.K C) (hp : PropOf X.K C m pp gg) (F : FnOk X.prog X.w X.K X.mg X.base (L2.CX X.prog X.w) k gg fd ps (spD 1 g)) (hr : Room (k + 1) X.A) (hb : Binds X.K fd ps []) (ho : EJ X W o fo)
    (hab : attributeBase o m X.env (eval o X.env) = eval o X.env := by rfl) : EJ X W (.Attribute o m pos) (eProp C g fo) := by
  obtain ⟨t, q, kk⟩ := ho
  refine ⟨_, pe_prop q c hp F hr hb (dvs := []) .nil passL hab, fun env σ K H Q s h => ?_⟩
  refine kk env σ K H _ s (MPost.mono (MPost.bind0 h) fun ro e1 h1 x H1 s1 o1 => ?_)
  split at h1
  · rename_i own c' ns ds e2 tk
    split at h1
    · rename_i hc
      subst hc
      have st : Stt H1 (ents [ro] [x] ++ K) e1 σ := by
        show Stt H1 ((ro.ent x ++ []) ++ K) e1 σ
        rw [List.append_nil]; exact s1
      obtain ⟨s2, l⟩ := take_ok (rs := [ro]) (vs := [x]) tk ⟨o1, trivial⟩ st
      have s3 : SI H1 ((.ins own c' ns ds, some x) :: (K ++ e2.zip σ)) := s2.si
      obtain ⟨a, dx, vs0, ev, hh, pk, hn⟩ := s3.pk.ins
      subst ev
      refine ⟨a, dx, _, rfl, hh, rfl, [.ins own c' ns ds], K ++ e2.zip σ, rfl, s3, ?_⟩
      cases ge : g [.ins own c' ns ds] with
      | no => rw [ge] at h1; exact h1.elim
      | er xx ee => rw [ge] at h1; exact h1.elim
      | ok d fin =>
        rw [ge] at h1
        refine fun v H' s' => h1 v H' ?_ trivial
        have s4 : Stt H' (fin.zip ([V.ref a].map some) ++ ((d, some v) :: K)) e2 σ := ⟨s2.len, s'.perm (by
          rw [List.append_assoc]
          exact List.perm_middle.symm)⟩
        exact put_ok (rs := [ro]) (vs := [.ref a]) ⟨o1, trivial⟩ s4
    · exact h1.elim
  · exact h1.elim
end
end VS
set_option Elab.async false
set_option linter.all false
set_option maxRecDepth 100000
namespace VS
open PySem PySem.Spec PyProof.Rows L2
variable {X : Cx} {W : WX} {P : List Nat}

/-! ### short forms -/
section
variable {x : Str} {pos : Pos}
theorem xv (i : Nat) (hN : X.N[i]? = some x := by rfl) (hv : Vis X.env.scope x := by first | exact Or.inl rfl | exact Or.inr (Or.inl rfl) | exact Or.inr (Or.inr rfl)) (hd : (x == ("__debug__" : Str)) = false := by decide) (hcd : (x == ("__classdict__" : Str)) = false := by decide) : EJ X W (.Name x pos) (eVar i) := ej_var hN hv hd hcd
theorem xc (i : Nat) (hN : X.N[i]? = some x := by rfl) (hv : Vis X.env.scope x := by first | exact Or.inl rfl | exact Or.inr (Or.inl rfl) | exact Or.inr (Or.inr rfl)) (hd : (x == ("__debug__" : Str)) = false := by decide) (hcd : (x == ("__classdict__" : Str)) = false := by decide) : EJ X W (.Name x pos) (eCp i) := ej_cp hN hv hd hcd
theorem xf (i : Nat) (hN : X.N[i]? = some x := by rfl) (hv : Vis X.env.scope x := by first | exact Or.inl rfl | exact Or.inr (Or.inl rfl) | exact Or.inr (Or.inr rfl)) (hd : (x == ("__debug__" : Str)) = false := by decide) (hcd : (x == ("__classdict__" : Str)) = false := by decide) : EJ X W (.Name x pos) (eFz i) := ej_fz hN hv hd hcd
theorem xm (i : Nat) (hN : X.N[i]? = some x := by rfl) (hv : Vis X.env.scope x := by first | exact Or.inl rfl | exact Or.inr (Or.inl rfl) | exact Or.inr (Or.inr rfl)) (hd : (x == ("__debug__" : Str)) = false := by decide) (hcd : (x == ("__classdict__" : Str)) = false := by decide) : EJ X W (.Name x pos) (eMv i) := ej_mv hN hv hd hcd
end
def eFrz (f : Ev) : Ev := fun e => (f e).bind fun r e1 => match r with
  | .val d => .ok (.val (fz d)) e1
  | .slot _ => .no
theorem ej_frz {e : Expr} {f : Ev} (h : EJ X W e f) : EJ X W e (eFrz f) := by
  obtain ⟨t, p, k⟩ := h
  refine ⟨t, p, fun env σ K H Q s h => k env σ K H _ s (MPost.mono (MPost.bind0 h) fun r e1 h1 v H1 s1 o1 => ?_)⟩
  cases r with
  | slot i => exact h1.elim
  | val d => exact h1 v H1 ⟨s1.len, SI.fz s1.si⟩ trivial
def sNo : Sv := fun _ => .no
theorem sj_never {st : Stmt} : SJ X W P st sNo := ⟨_, ps_never, fun env σ K H D s h => h.elim⟩
theorem bj_never {st : List Stmt} : BJ X W P st sNo := ⟨_, pss_never, fun env σ K H D s h => h.elim⟩

/-! ### sorted -/
def asPairs : List D → Option (List (Int × Int))
  | [] => some []
  | .tup [.atm (.int i), .atm (.int j)] :: ds => match asPairs ds with
    | some ps => some ((i, j) :: ps)
    | none => none
  | _ => none
def pairD (p : Int × Int) : D := .tup [.atm (.int p.1), .atm (.int p.2)]
theorem asPairs_eq : ∀ {ds : List D} {ps : List (Int × Int)}, asPairs ds = some ps → ds = ps.map pairD
  | [], ps, h => by cases h; rfl
  | d :: ds, ps, h => by
    unfold asPairs at h
    split at h
    · rename_i e; cases e
    · rename_i i j ds' e
      cases e
      split at h
      · rename_i qs e2
        cases h
        rw [asPairs_eq e2]; rfl
      · cases h
    · cases h
def leP (a b : Int × Int) : Bool := decide (a.1 < b.1) || (decide (a.1 = b.1) && decide (a.2 ≤ b.2))
def srtI (ns : List Int) : List Int := ns.mergeSort fun a b => decide (a ≤ b)
def srtP (ps : List (Int × Int)) : List (Int × Int) := ps.mergeSort leP
theorem srtI_eq {ns ms : List Int} (p : ms.Perm ns) (s : ms.Pairwise (· ≤ ·)) : ms = srtI ns := by
  refine List.Perm.eq_of_pairwise (le := fun a b : Int => a ≤ b) (fun a b _ _ h1 h2 => Int.le_antisymm h1 h2) s ?_ (p.trans (List.mergeSort_perm _ _).symm)
  have := List.pairwise_mergeSort (le := fun a b : Int => decide (a ≤ b)) (fun a b c h1 h2 => by simp at *; omega) (fun a b => by simp; omega) ns
  exact this.imp (by simp)
theorem leP_iff {a b : Int × Int} : leP a b = true ↔ (a.1 < b.1 ∨ (a.1 = b.1 ∧ a.2 ≤ b.2)) := by
  simp [leP]
theorem srtP_eq {ps qs : List (Int × Int)} (p : qs.Perm ps) (s : qs.Pairwise (fun a b => leP a b = true)) : qs = srtP ps := by
  refine List.Perm.eq_of_pairwise (le := fun a b : Int × Int => leP a b = true) (fun a b _ _ h1 h2 => ?_) s ?_ (p.trans (List.mergeSort_perm _ _).symm)
  · rw [leP_iff] at h1 h2
    exact Prod.ext (by omega) (by omega)
  · exact List.pairwise_mergeSort (le := leP) (fun a b c h1 h2 => by rw [leP_iff] at *; omega) (fun a b => by rw [Bool.or_eq_true, leP_iff, leP_iff]; omega) ps
def gSorted : List D → Option D
  | [.lst _ ds] => match asInts ds with
    | some ns => some (.lst true ((srtI ns).map fun n => .atm (.int n)))
    | none => match asPairs ds with
      | some ps => some (.lst true ((srtP ps).map pairD))
      | none => none
  | _ => none
theorem fzns_pairs : ∀ ps : List (Int × Int), fzns (ps.map pairD) = true
  | [] => rfl
  | p :: ps => by simp [fzns, pairD, fzn, fzns_pairs ps]
theorem zip_pairs (k : V → Int × Int) : ∀ vs : List V, ((vs.map k).map pairD).zip (vs.map some) = vs.map fun w => (pairD (k w), some w)
  | [] => rfl
  | v :: vs => by simp only [List.map_cons, List.zip_cons_cons, zip_pairs k vs]
def rSortA (Kf : PySem.W.Frag) : List V → Hp → VK → Prop := fun vs H Q => rSortedI Kf vs H Q ∨ rSortedPO Kf vs H Q
/-- the two ints of a pair that stands -/
def kOf (H : Hp) (v : V) : Int × Int := match v with
  | .ref t => match H t with
    | some (.tup [.int i, .int j]) => (i, j)
    | _ => (0, 0)
  | _ => (0, 0)
theorem kOf_pair {H : Hp} {t : Addr} {i j : Int} (h : H t = some (.tup [.int i, .int j])) : kOf H (.ref t) = (i, j) := by
  simp only [kOf, h]
theorem pair_pk {H : Hp} {p : Int × Int} {v : V} (h : Pk H (pairD p) v) : ∃ t, v = .ref t ∧ H t = some (.tup [.int p.1, .int p.2]) := by
  obtain ⟨a, vs, e, ha, pk⟩ := h.tup
  obtain ⟨v1, e1, k1⟩ := pk.2 0 _ rfl
  obtain ⟨v2, e2, k2⟩ := pk.2 1 _ rfl
  have hl := pk.1
  match vs, hl with
  | [x, y], _ =>
    cases e1; cases e2
    rw [k1.atm, k2.atm] at ha
    exact ⟨a, e, ha⟩
theorem op_sorted : OpN (rSortA X.K) gSorted := by
  intro H L xs ds z Q s m hz q
  unfold gSorted at hz
  split at hz
  · rename_i own ds
    obtain ⟨v, ex, mv⟩ := mems1 m
    subst ex
    split at hz
    · rename_i ns e
      cases hz
      obtain ⟨a, vs, ev, ha, pk⟩ := (s.pkm mv).lst
      subst ev
      have := asInts_eq e
      subst this
      have ev := pkl_ints pk
      subst ev
      refine .inl ⟨a, ns, rfl, .inl (.inl ha), fun ns' p hp hs hn => q _ _ ?_⟩
      rw [srtI_eq hp hs]
      exact SI.newL (s.ints _) (by simp) hn
    · split at hz
      · rename_i ps e
        cases hz
        have := asPairs_eq e
        subst this
        have fr : fzns (ps.map pairD) = true := fzns_pairs ps
        obtain ⟨a, vs, ev, ha, hl, s1⟩ := s.kidsL mv fr
        subst ev
        have hk : ∀ (i : Nat) (p : Int × Int) (w : V), ps[i]? = some p → vs[i]? = some w → ∃ t, w = .ref t ∧ H t = some (.tup [.int p.1, .int p.2]) := fun i p w e1 e2 => by
          refine pair_pk (s1.pkm (List.mem_append_left _ ?_))
          exact List.mem_of_getElem? (i := i) (zip_get (by simp [e1]) (by simp [e2]))
        have hm : vs.map (kOf H) = ps := by
          apply List.ext_getElem?
          intro i
          have hl' : ps.length = vs.length := by simpa using hl
          cases e1 : ps[i]? with
          | none =>
            have : ps.length ≤ i := List.getElem?_eq_none_iff.mp e1
            rw [List.getElem?_eq_none (by simp; omega)]
          | some p =>
            obtain ⟨hi, _⟩ := List.getElem?_eq_some_iff.mp e1
            have e2 : vs[i]? = some (vs[i]'(by omega)) := List.getElem?_eq_getElem _
            obtain ⟨t, ew, ht⟩ := hk i p _ e1 e2
            rw [List.getElem?_map, e2, ew, Option.map_some, kOf_pair ht]
        have hall : ∀ w ∈ vs, ∃ t, w = .ref t ∧ H t = some (.tup [.int (kOf H w).1, .int (kOf H w).2]) := fun w hw => by
          obtain ⟨i, e2⟩ := List.getElem?_of_mem hw
          have hi : i < ps.length := by
            have hl' : ps.length = vs.length := by simpa using hl
            have := (List.getElem?_eq_some_iff.mp e2).1
            omega
          obtain ⟨t, ew, ht⟩ := hk i _ w (List.getElem?_eq_getElem hi) e2
          refine ⟨t, ew, ?_⟩
          rw [ew, kOf_pair ht]
          exact ht
        refine .inr ⟨a, vs, kOf H, rfl, .inl (.inl ha), hall, fun ys p hs hb hn => q _ _ ?_⟩
        have pm : (ys.map (kOf H)).Perm ps := by rw [← hm]; exact hb.perm.map _
        have hsort : (ys.map (kOf H)).Pairwise (fun a b => leP a b = true) := List.pairwise_map.mpr (hs.imp fun {x y} h => by
          have := SrtO.lexB_no.mp h
          rw [leP_iff]; omega)
        have e1 := srtP_eq pm hsort
        rw [← e1]
        have hz : (ps.map pairD).zip (vs.map some) = vs.map fun w => (pairD (kOf H w), some w) := by
          rw [← hm]
          exact zip_pairs _ vs
        have hz' : ((ys.map (kOf H)).map pairD).zip (ys.map some) = ys.map fun w => (pairD (kOf H w), some w) := zip_pairs _ ys
        refine SI.newL ?_ (by simp) hn
        rw [hz']
        rw [hz] at s1
        exact s1.perm ((hb.perm.symm.map _).append_right _)
      · cases hz
  · cases hz
theorem b_sorted : CallR X (.builtin "sorted") (rSortA X.K) ∧ OpN (rSortA X.K) gSorted := by
  refine ⟨fun pins s σ H xs us Q I r h => ?_, op_sorted⟩
  rcases h with h | h
  · exact cr_sortedI pins s σ H xs us Q I r h
  · exact cr_sortedPO pins s σ H xs us Q I r h

/-! ### isinstance of data, built-in types -/
def tyD : D → Option String
  | .atm .non => some "NoneType"
  | .atm (.bl _) => some "bool"
  | .atm (.int _) => some "int"
  | .atm (.str _) => some "str"
  | .lst _ _ => some "list"
  | .tup _ => some "tuple"
  | _ => none
theorem tyD_ok {Kf : PySem.W.Frag} {H : Hp} {d : D} {v : V} {T : String} (h : Pk H d v) (e : tyD d = some T) : TyX Kf H v (.type T) := by
  unfold tyD at e
  split at e <;> first | cases e | skip
  · rw [h.atm]; exact .base .non
  · rw [h.atm]; exact .base (.bl _)
  · rw [h.atm]; exact .base (.int _)
  · rw [h.atm]; exact .base (.str _)
  · obtain ⟨a, vs, ev, ha, _⟩ := h.lst
    rw [ev]; exact .base (.lst ha)
  · obtain ⟨a, vs, ev, ha, _⟩ := h.tup
    rw [ev]; exact .base (.tup ha)
def gIsT (T : String) (d : D) : Option D := match tyD d with
  | some t => match kitB t T with
    | some b => some (.atm (.bl b))
    | none => none
  | none => none
theorem ej_isT {T : String} {n : Str} {e : Expr} {fe : Ev} {p p2 pos : Pos} (hg : Gl X "isinstance") (hm : X.mg "isinstance" = none) (hgt : Gl X n) (hmt : X.mg n = none) (hbt : bootBuiltins n = some (.type T)) (he : EJ X W e fe)
    (hst : starEach (e :: [.Name n p2]) X.env = (false, eval e X.env) :: starEach [.Name n p2] X.env := by rfl) (hst2 : starEach (.Name n p2 :: []) X.env = (false, eval (.Name n p2) X.env) :: starEach [] X.env := by rfl) (hpl : (backTo pos (starEach [.Name n p2] X.env)).any (·.1) = false := by rfl) (hn : n ≠ "__name__" := by decide) (hnd : (n == ("__debug__" : Str)) = false := by decide) :
    EJ X W (.Call (.Name "isinstance" p) [e, .Name n p2] [] pos) (eU (gIsT T) fe) := by
  obtain ⟨t, q, k⟩ := he
  refine ⟨_, pe_callB call_isi hg hm PyProof.Rows.boot_isinstance (pa_cons q (pa_cons (pe_bltn (v := .ty T) hgt hmt hbt rfl (hn := hn) (hd := hnd)) pa_nil hst2) hst) (by decide) (by decide) hst hpl, fun env σ K H Q s h => ?_⟩
  refine k env σ K H _ s (MPost.mono (MPost.bind0 h) fun ra e1 h1 x H1 s1 o1 => ?_)
  cases px : peek ra e1 with
  | none => simp only [px] at h1; exact h1.elim
  | some d =>
    simp only [px] at h1
    have m := mem_peek (L := ra.ent x ++ K ++ e1.zip σ) (e := e1) (σ := σ) o1 (fun p hp => by simp [hp]) (fun p hp => by simp [hp]) px
    unfold gIsT at h1
    cases et : tyD d with
    | none => simp only [et] at h1; exact h1.elim
    | some t0 => cases eb : kitB t0 T with
      | none => simp only [et, eb] at h1; exact h1.elim
      | some b =>
        simp only [et, eb] at h1
        exact ⟨x, .ty T, _, _, b, rfl, .ty T, tyD_ok (s1.si.pkm m) et, kit_ty eb, h1 _ H1 ⟨s1.len, (SI.drops (M := ra.ent x) (by have := s1.si; rwa [List.append_assoc] at this)).atm nr_bl⟩ trivial⟩

/-! ### enumerate -/
def enD (i : Nat) : List D → List D
  | [] => []
  | d :: ds => .tup [.atm (.int i), d] :: enD (i + 1) ds
def enL (ds : List D) : List D := (List.range ds.length).zipWith (fun i d => D.tup [.atm (.int (i : Nat)), d]) ds
def fEn (f : Ev) : Iv := fun e => (f e).bind fun r e1 => match r with
  | .val (.lst _ ds) => if fzns ds then .ok (enL ds) e1 else .no
  | _ => .no
theorem its_enum {Kf : PySem.W.Frag} {own : Bool} {ds : List D} {a : Addr} (f : fzns ds = true) : ItS (Ite Kf a) (enL ds) [(.lst own ds, some (.ref a))] := by
  intro i H L s
  obtain ⟨b, vs, e, ha, pk⟩ := s.pk.lst
  cases e
  have hlen : (enL ds).length = ds.length := by simp [enL]
  refine ⟨fun h => ⟨vs, .inl (.inl ha), by rw [← pk.1, ← hlen]; exact h⟩, fun d hd => ?_⟩
  have hi : i < ds.length := by rw [← hlen]; exact (List.getElem?_eq_some_iff.mp hd).1
  have hd2 : ds[i]? = some ds[i] := List.getElem?_eq_getElem hi
  have hd3 : d = D.tup [.atm (.int (i : Nat)), ds[i]] := by
    unfold enL at hd
    rw [List.getElem?_zipWith] at hd
    simp [hi] at hd
    exact hd.symm
  obtain ⟨v, e1, s1⟩ := s.kidL ha hd2 (fzns_get f hd2)
  refine ⟨⟨vs, v, .inl (.inl ha), e1⟩, fun x H1 ⟨Ta, x', ex, hT, eH, hx⟩ => ?_⟩
  subst ex; subst eH; subst hd3
  have := hx vs (.inl (.inl ha))
  rw [e1] at this
  cases this
  have s2 : SI H ([D.atm (.int (i : Nat)), ds[i]].zip ([V.int (i : Nat), v].map some) ++ ([(D.lst own ds, some (V.ref a))] ++ L)) := by
    show SI H ((D.atm (.int (i : Nat)), some (V.int (i : Nat))) :: (ds[i], some v) :: ((D.lst own ds, some (V.ref a)) :: L))
    exact s1.atm nr_int
  exact SI.newT s2 rfl hT
theorem ij_enum {e : Expr} {f : Ev} {p pos tpos : Pos} {elts : List Expr} {kk : Nat} (hg : Gl X "enumerate") (hm : X.mg "enumerate" = none) (h : EJ X W e f) (hs : starEach [e] X.env = [(false, eval e X.env)] := by rfl) (hs1 : starEach (e :: []) X.env = (false, eval e X.env) :: starEach [] X.env := by rfl) :
    IJ X W (.Tuple elts kk tpos) (.Call (.Name "enumerate" p) [e] [] pos) (fEn f) := by
  obtain ⟨t, q, k⟩ := h
  refine ⟨_, pi_enum hg hm (pa_cons q pa_nil hs1) hs, fun env σ K H R s m => k env σ K H _ s (MPost.mono (MPost.bind0 m) fun r e1 h1 v H1 s1 o1 => ?_)⟩
  split at h1
  · rename_i own ds
    split at h1
    · rename_i c
      obtain ⟨a, vs, e, ha, pk⟩ := s1.si.pk.lst
      subst e
      exact ⟨a, vs, rfl, .inl (.inl ha), h1 _ H1 _ s1 (its_enum c)⟩
    · exact h1.elim
  · exact h1.elim
end VS
set_option Elab.async false
set_option linter.all false
set_option maxRecDepth 100000
namespace VS
open PySem PySem.Spec PyProof.Rows L2
variable {X : Cx} {W : WX} {P : List Nat}

/-! ### a part of one's own thing, taken out and put back -/
theorem Reps.split {G H : Hp} : ∀ {ds : List D} {vs : List V} {F : List Addr} {j : Nat} {d : D} {v : V}, Reps G H ds vs F → ds[j]? = some d → vs[j]? = some v →
    ∃ F1 F2, F.Perm (F1 ++ F2) ∧ Rep G H d (some v) F1 ∧ Reps G H (ds.set j (.hol v)) vs F2
  | [], vs, F, j, d, v, h, e, e' => by cases j <;> cases e
  | x :: ds, vs, F, j, d, v, h, e, e' => by
    unfold Reps at h
    obtain ⟨w, vr, F1, F2, e1, ef, r1, r2⟩ := h
    subst e1; subst ef
    cases j with
    | zero =>
      cases e; cases e'
      refine ⟨F1, F2, .refl _, r1, ?_⟩
      rw [List.set_cons_zero]
      unfold Reps
      exact ⟨_, vr, [], F2, rfl, rfl, by unfold Rep; exact ⟨rfl, rfl⟩, r2⟩
    | succ j =>
      obtain ⟨F3, F4, p, r3, r4⟩ := Reps.split r2 (j := j) (by simpa using e) (by simpa using e')
      refine ⟨F3, F1 ++ F4, ?_, r3, ?_⟩
      · refine (p.append_left F1).trans ?_
        rw [← List.append_assoc, ← List.append_assoc]
        exact List.perm_append_comm.append_right _
      · rw [List.set_cons_succ]
        unfold Reps
        exact ⟨w, vr, F1, F4, rfl, rfl, r1, r4⟩
theorem Reps.join {G H : Hp} : ∀ {ds : List D} {vs : List V} {F F1 : List Addr} {j : Nat} {d : D} {v : V}, Reps G H ds vs F → ds[j]? = some (.hol v) → Rep G H d (some v) F1 →
    ∃ F', F'.Perm (F1 ++ F) ∧ Reps G H (ds.set j d) vs F'
  | [], vs, F, F1, j, d, v, h, e, r => by cases j <;> cases e
  | x :: ds, vs, F, F1, j, d, v, h, e, r => by
    unfold Reps at h
    obtain ⟨w, vr, F3, F4, e1, ef, r1, r2⟩ := h
    subst e1; subst ef
    cases j with
    | zero =>
      cases e
      unfold Rep at r1
      obtain ⟨ew, ef⟩ := r1
      cases ew
      subst ef
      refine ⟨F1 ++ F4, .refl _, ?_⟩
      rw [List.set_cons_zero]
      unfold Reps
      exact ⟨_, vr, F1, F4, rfl, rfl, r, r2⟩
    | succ j =>
      obtain ⟨F', p, r4⟩ := Reps.join r2 (j := j) (by simpa using e) r
      refine ⟨F3 ++ F', ?_, ?_⟩
      · refine (p.append_left F3).trans ?_
        rw [← List.append_assoc, ← List.append_assoc]
        exact List.perm_append_comm.append_right _
      · rw [List.set_cons_succ]
        unfold Reps
        exact ⟨w, vr, F3, F', rfl, rfl, r1, r4⟩
/-- a thing with parts: our own list, a tuple -/
def kids : D → Option (List D)
  | .lst true ds => some ds
  | .tup ds => some ds
  | _ => none
def box (d : D) (ds : List D) : D := match d with
  | .lst o _ => .lst o ds
  | .tup _ => .tup ds
  | d => d
/-- what stands at a: a list's items, a tuple's -/
def Seq (H : Hp) (d : D) (a : Addr) (vs : List V) : Prop := match d with
  | .lst _ _ => H a = some (.lst vs)
  | .tup _ => H a = some (.tup vs)
  | _ => False
theorem SI.split {H : Hp} {d0 : D} {ds : List D} {v0 : V} {L : List Ent} (h : SI H ((d0, some v0) :: L)) (k : kids d0 = some ds) {j : Nat} {d : D} (e : ds[j]? = some d) :
    ∃ a vs v, v0 = .ref a ∧ Seq H d0 a vs ∧ ds.length = vs.length ∧ vs[j]? = some v ∧ SI H ((d, some v) :: (box d0 (ds.set j (.hol v)), some v0) :: L) := by
  obtain ⟨G, F, ⟨F1, F2, ef, r1, r2⟩, nd, gn, l⟩ := h
  subst ef
  unfold kids at k
  split at k
  · cases k
    unfold Rep at r1
    obtain ⟨a, vs, F3, e0, r3, ha, e3⟩ := r1
    subst e3
    have hl := (RepL.of_reps r3).2
    obtain ⟨v, F', hv, _⟩ := r3.get j d e
    obtain ⟨F5, F6, p, r5, r6⟩ := r3.split e hv
    refine ⟨a, vs, v, Option.some.inj e0, ha, hl, hv, G, F5 ++ ((a :: F6) ++ F2), ⟨F5, (a :: F6) ++ F2, rfl, r5, a :: F6, F2, rfl, ?_, r2⟩, ?_, ?_, l⟩
    · unfold box Rep; exact ⟨a, vs, F6, e0, r6, ha, rfl⟩
    · have pm : (a :: F3 ++ F2).Perm (F5 ++ ((a :: F6) ++ F2)) := by
        rw [← List.append_assoc]
        refine List.Perm.append_right _ ?_
        exact (p.cons a).trans List.perm_middle.symm
      exact pm.nodup_iff.mp nd
    · intro x hx
      refine gn x ?_
      have pm : (a :: F3 ++ F2).Perm (F5 ++ ((a :: F6) ++ F2)) := by
        rw [← List.append_assoc]
        refine List.Perm.append_right _ ?_
        exact (p.cons a).trans List.perm_middle.symm
      exact pm.mem_iff.mpr hx
  · cases k
    unfold Rep at r1
    obtain ⟨a, vs, e0, r3, ha⟩ := r1
    have hl := (RepL.of_reps r3).2
    obtain ⟨v, F', hv, _⟩ := r3.get j d e
    obtain ⟨F5, F6, p, r5, r6⟩ := r3.split e hv
    have pm : (F1 ++ F2).Perm (F5 ++ (F6 ++ F2)) := by
      rw [← List.append_assoc]
      exact p.append_right _
    refine ⟨a, vs, v, Option.some.inj e0, l _ _ ha, hl, hv, G, F5 ++ (F6 ++ F2), ⟨F5, F6 ++ F2, rfl, r5, F6, F2, rfl, ?_, r2⟩, pm.nodup_iff.mp nd, fun x hx => gn x (pm.mem_iff.mpr hx), l⟩
    unfold box Rep; exact ⟨a, vs, e0, r6, ha⟩
  · cases k
theorem SI.join {H : Hp} {d0 : D} {ds : List D} {o0 : Option V} {L : List Ent} {j : Nat} {d : D} {v : V} (k : kids d0 = some ds) (h : SI H ((d, some v) :: (d0, o0) :: L)) (e : ds[j]? = some (.hol v)) :
    SI H ((box d0 (ds.set j d), o0) :: L) := by
  obtain ⟨G, F, ⟨F0, F9, e9, r0, F1, F2, ef, r1, r2⟩, nd, gn, l⟩ := h
  subst ef; subst e9
  unfold kids at k
  split at k
  · cases k
    unfold Rep at r1
    obtain ⟨a, vs, F3, e0, r3, ha, e3⟩ := r1
    subst e3
    obtain ⟨F', p, r4⟩ := r3.join e r0
    have pm : (F0 ++ (a :: F3 ++ F2)).Perm ((a :: F') ++ F2) := by
      rw [← List.append_assoc]
      refine List.Perm.append_right _ ?_
      exact List.perm_middle.trans (p.symm.cons a)
    refine ⟨G, (a :: F') ++ F2, ⟨a :: F', F2, rfl, ?_, r2⟩, pm.nodup_iff.mp nd, fun x hx => gn x (pm.mem_iff.mpr hx), l⟩
    unfold box Rep; exact ⟨a, vs, F', e0, r4, ha, rfl⟩
  · cases k
    unfold Rep at r1
    obtain ⟨a, vs, e0, r3, ha⟩ := r1
    obtain ⟨F', p, r4⟩ := r3.join e r0
    have pm : (F0 ++ (F1 ++ F2)).Perm (F' ++ F2) := by
      rw [← List.append_assoc]
      exact p.symm.append_right _
    refine ⟨G, F' ++ F2, ⟨F', F2, rfl, ?_, r2⟩, pm.nodup_iff.mp nd, fun x hx => gn x (pm.mem_iff.mpr hx), l⟩
    unfold box Rep; exact ⟨a, vs, e0, r4, ha⟩
  · cases k
theorem kids_box {d0 : D} {ds ds' : List D} (k : kids d0 = some ds) : kids (box d0 ds') = some ds' := by
  unfold kids at k
  split at k
  · rfl
  · rfl
  · cases k
theorem kids_nj {d0 : D} {ds : List D} (k : kids d0 = some ds) : isJ d0 = false := by
  cases d0 <;> first | rfl | cases k
theorem box_box {d0 : D} {a b : List D} : box (box d0 a) b = box d0 b := by cases d0 <;> rfl
/-- the reading of x[k] at a thing with parts -/
theorem seq_ix {Kf : PySem.W.Frag} {H : Hp} {d0 : D} {ds : List D} {a : Addr} {vs : List V} {k : Int} {j : Nat} {v : V} {Q : VK} (kd : kids d0 = some ds) (hs : Seq H d0 a vs) (hj : ixN vs.length k = some j) (hv : vs[j]? = some v) (q : Q v H) : rIxA Kf (.ref a) (.int k) H Q := by
  unfold kids at kd
  split at kd
  · exact .inl ⟨a, vs, k, v, rfl, rfl, .inl (.inl hs), ix_atI rfl hj hv, q⟩
  · exact .inr ⟨a, vs, k, v, rfl, rfl, .inl (.inl hs), ix_atI rfl hj hv, q⟩
  · cases kd
/-- x[k].m(..) that changes the part -/
def eMutP (i : Nat) (fk : Ev) (g : List D → List D → Option (List D × D)) (fa : Av) : Ev := fun e => match e[i]? with
  | some d00 => match kids d00 with
    | some _ => (fk e).bind fun rk e1 => match e1[i]?, peek rk e1 with
      | some d0, some (.atm (.int k)) => match kids d0 with
        | some ds => match ixN ds.length k with
          | some j => match ds[j]? with
            | some (.lst true es) => (fa (e1.set i .jnk)).bind fun rs e2 => match vals rs with
              | some as => match g es as with
                | some (es', z) => .ok (.val z) (e2.set i (box d0 (ds.set j (.lst true es'))))
                | none => .no
              | none => .no
            | _ => .no
          | none => .no
        | none => .no
      | _, _ => .no
    | none => .no
  | none => .no
theorem eok_mutP {i : Nat} {fk : Ev} {tk : TE} {r : V → List V → Hp → VK → Prop} {g : List D → List D → Option (List D × D)} {ta : TA} {fa : Av} {Kf : PySem.W.Frag} (hg : MutOk r g) (hk : EOk W tk fk) (ha : AOk W ta fa) : EOk W (tBM Kf "list" r (tOp (rIxA Kf) (tVar i) tk) ta) (eMutP i fk g fa) := by
  intro env σ K H Q s h
  unfold eMutP at h
  split at h
  case h_2 => exact h.elim
  rename_i d00 hd00
  split at h
  case h_2 => exact h.elim
  rename_i ds00 hk00
  obtain ⟨v0, hv0⟩ := slot_some s hd00 (kids_nj hk00)
  refine ⟨v0, hv0, hk env σ K H _ s (MPost.mono (MPost.bind0 h) fun rk e1 h1 y H1 s1 o1 => ?_)⟩
  split at h1
  case h_2 => exact h1.elim
  rename_i d0 k hd0 hpk
  split at h1
  case h_2 => exact h1.elim
  rename_i ds hkd
  split at h1
  case h_2 => exact h1.elim
  rename_i j hj
  split at h1
  case h_2 => exact h1.elim
  rename_i es hes
  have my := mem_peek (L := rk.ent y ++ K ++ e1.zip σ) (e := e1) (σ := σ) o1 (fun p hp => by simp [hp]) (fun p hp => by simp [hp]) hpk
  have ey := (s1.si.pkm my).atm
  subst ey
  have s2 : Stt H1 K e1 σ := s1.drops
  have s3 := Stt.swap (y := .jnk) (o := some v0) ⟨s2.len, SI.jnk s2.si⟩ hd0 hv0
  obtain ⟨a, vs, v, ev, sq, hl, hv, s4⟩ := SI.split s3.si hkd hes
  subst ev
  have hj' : ixN vs.length k = some j := by rw [← hl]; exact hj
  refine seq_ix hkd sq hj' hv ?_
  obtain ⟨b, ws, eb, hb, _⟩ := s4.pk.lst
  subst eb
  refine ⟨.inl ⟨rfl, ws, .inl (.inl hb)⟩, ?_⟩
  have s5 : Stt H1 ((.lst true es, some (.ref b)) :: (box d0 (ds.set j (.hol (.ref b))), some (.ref a)) :: K) (e1.set i .jnk) σ := ⟨s3.len, s4⟩
  refine ha _ σ ([(.lst true es, some (.ref b)), (box d0 (ds.set j (.hol (.ref b))), some (.ref a))] ++ K) H1 _ s5 (MPost.mono (MPost.bind (K0 := [(.lst true es, some (.ref b)), (box d0 (ds.set j (.hol (.ref b))), some (.ref a))]) h1) fun rs e2 h2 us H2 s6 o2 => ?_)
  split at h2
  case h_2 => exact h2.elim
  rename_i as has
  split at h2
  case h_2 => exact h2.elim
  rename_i es' z hz
  obtain ⟨ez, el⟩ := vals_ents has o2
  have s7 : SI H2 ((.lst true es, some (.ref b)) :: (as.zip (us.map some) ++ ((box d0 (ds.set j (.hol (.ref b))), some (.ref a)) :: (K ++ e2.zip σ)))) := by
    have := s6.si
    rw [ez, List.append_assoc] at this
    exact this.perm List.perm_middle
  refine hg H2 _ b es as us es' z Q el s7 hz fun u H' s8 => h2 u H' ?_ trivial
  have hjl : j < ds.length := (List.getElem?_eq_some_iff.mp hes).1
  have s9 : SI H' ((.lst true es', some (.ref b)) :: (box d0 (ds.set j (.hol (.ref b))), some (.ref a)) :: ((z, some u) :: (K ++ e2.zip σ))) := s8.perm ((List.Perm.swap _ _ _).cons _)
  have s10 := SI.join (kids_box hkd) s9 (List.getElem?_set_self hjl)
  rw [box_box, List.set_set] at s10
  have s11 : Stt H' ((box d0 (ds.set j (.lst true es')), some (.ref a)) :: ((z, some u) :: K)) e2 σ := ⟨s6.len, s10⟩
  have hi : i < e2.length := by rw [s6.len]; exact (List.getElem?_eq_some_iff.mp hv0).1
  have s12 := s11.put hi
  rw [set_self hv0] at s12
  exact s12
section
variable {i : Nat} {fk : Ev} {r : V → List V → Hp → VK → Prop} {g : List D → List D → Option (List D × D)} {x name : Str} {id : String} {ke e : Expr} {es : List Expr} {fa : Av} {pos spos apos cpos : Pos}
theorem ej_mutP (slot : Slot "list" name id) (hty : typeOf (.builtin id) = pure (.type "method_descriptor")) (hm : MtR X id r) (hg : MutOk r g)
    (hN : X.N[i]? = some x) (hv : Vis X.env.scope x) (hk : EJ X W ke fk) (ha : AJ X W (e :: es) fa) (hd : (x == ("__debug__" : Str)) = false := by decide) (hcd : (x == ("__classdict__" : Str)) = false := by decide) (hs0 : PlainIx ke := by intro _ _; rfl)
    (hbase : attributeBase (.Subscript (.Name x pos) ke spos) name X.env (eval (.Subscript (.Name x pos) ke spos) X.env) = eval (.Subscript (.Name x pos) ke spos) X.env := by rfl)
    (hfew : ((backTo cpos (starEach (e :: es) X.env)).all (fun x => !x.1) && (backToKw cpos (keywordEach [] X.env)).all (fun x => x.1.isSome)
      && decide ((e :: es).length + ([] : List Keyword).length + (if ([] : List Keyword).isEmpty then 0 else 1) < 30)) = true := by rfl)
    (hline : (apos.endLine == cpos.line) = true := by rfl) (hs : starEach (e :: es) X.env = (false, eval e X.env) :: starEach es X.env := by rfl) (hplain : (backTo cpos (starEach es X.env)).any (·.1) = false := by rfl) :
    EJ X W (.Call (.Attribute (.Subscript (.Name x pos) ke spos) name apos) (e :: es) [] cpos) (eMutP i fk g fa) := by
  obtain ⟨t, q, k⟩ := ha
  obtain ⟨tk, qk, kk⟩ := hk
  exact ⟨_, pe_bm PySem.F.plainAttrs_list slot hty hm (pe_ix (IxR.or ix_list ix_tup) (pe_var hN hv hd hcd) qk hs0) q hbase hfew hline hs hplain, eok_mutP hg kk k⟩
theorem ej_mutP0 (slot : Slot "list" name id) (hty : typeOf (.builtin id) = pure (.type "method_descriptor")) (hm : MtR X id r) (hg : MutOk r g)
    (hN : X.N[i]? = some x) (hv : Vis X.env.scope x) (hk : EJ X W ke fk) (hd : (x == ("__debug__" : Str)) = false := by decide) (hcd : (x == ("__classdict__" : Str)) = false := by decide) (hs0 : PlainIx ke := by intro _ _; rfl)
    (hbase : attributeBase (.Subscript (.Name x pos) ke spos) name X.env (eval (.Subscript (.Name x pos) ke spos) X.env) = eval (.Subscript (.Name x pos) ke spos) X.env := by rfl) (hline : (apos.endLine == cpos.line) = true := by rfl) :
    EJ X W (.Call (.Attribute (.Subscript (.Name x pos) ke spos) name apos) [] [] cpos) (eMutP i fk g aNil) := by
  obtain ⟨tk, qk, kk⟩ := hk
  refine ⟨_, pe_bm0 PySem.F.plainAttrs_list slot hty hm (pe_ix (IxR.or ix_list ix_tup) (pe_var hN hv hd hcd) qk hs0) hbase hline, ?_⟩
  exact eok_mutP (Kf := X.K) (ta := tNil) hg kk (fun env σ K H Q s h => h [] H s trivial)
end
/-- f(x[k], ..), f may change x[k] -/
def eCallP (i n : Nat) (g : Fv) (fk : Ev) (fa : Av) : Ev := fun e => match e[i]? with
  | some d00 => match kids d00 with
    | some _ => (fk e).bind fun rk e1 => match e1[i]?, peek rk e1 with
      | some d0, some (.atm (.int k)) => match kids d0 with
        | some ds => match ixN ds.length k with
          | some j => match ds[j]? with
            | some dj => (fa (e1.set i .jnk)).bind fun rs e2 => match takeS rs e2 with
              | some (as, e3) => if as.length + 1 = n then match g (dj :: as) with
                  | .no => .no
                  | .er x _ => .er x e3
                  | .ok r (dj' :: fin) => .ok (.val r) ((putS rs fin e3).set i (box d0 (ds.set j dj')))
                  | .ok _ [] => .no
                else .no
              | none => .no
            | none => .no
          | none => .no
        | none => .no
      | _, _ => .no
    | none => .no
  | none => .no
theorem eok_callP {i n : Nat} {g : Fv} {fk : Ev} {tk : TE} {ta : TA} {fa : Av} {Kf : PySem.W.Frag} (hk : EOk W tk fk) (ha : AOk W ta fa) : EOk W (tCallS (spD n g) (WE W) (tCons (tOp (rIxA Kf) (tVar i) tk) ta)) (eCallP i n g fk fa) := by
  intro env σ K H Q s h
  unfold eCallP at h
  split at h
  case h_2 => exact h.elim
  rename_i d00 hd00
  split at h
  case h_2 => exact h.elim
  rename_i ds00 hk00
  obtain ⟨v0, hv0⟩ := slot_some s hd00 (kids_nj hk00)
  refine ⟨v0, hv0, hk env σ K H _ s (MPost.mono (MPost.bind0 h) fun rk e1 h1 y H1 s1 o1 => ?_)⟩
  split at h1
  case h_2 => exact h1.elim
  rename_i d0 k hd0 hpk
  split at h1
  case h_2 => exact h1.elim
  rename_i ds hkd
  split at h1
  case h_2 => exact h1.elim
  rename_i j hj
  split at h1
  case h_2 => exact h1.elim
  rename_i dj hdj
  have my := mem_peek (L := rk.ent y ++ K ++ e1.zip σ) (e := e1) (σ := σ) o1 (fun p hp => by simp [hp]) (fun p hp => by simp [hp]) hpk
  have ey := (s1.si.pkm my).atm
  subst ey
  have s2 : Stt H1 K e1 σ := s1.drops
  have s3 := Stt.swap (y := .jnk) (o := some v0) ⟨s2.len, SI.jnk s2.si⟩ hd0 hv0
  obtain ⟨a, vs, v, ev, sq, hl, hv, s4⟩ := SI.split s3.si hkd hdj
  subst ev
  have hj' : ixN vs.length k = some j := by rw [← hl]; exact hj
  refine seq_ix hkd sq hj' hv ?_
  have s5 : Stt H1 ((dj, some v) :: (box d0 (ds.set j (.hol v)), some (.ref a)) :: K) (e1.set i .jnk) σ := ⟨s3.len, s4⟩
  refine ha _ σ ([(dj, some v), (box d0 (ds.set j (.hol v)), some (.ref a))] ++ K) H1 _ s5 (MPost.mono (MPost.bind (K0 := [(dj, some v), (box d0 (ds.set j (.hol v)), some (.ref a))]) h1) fun rs e2 h2 us H2 s6 o2 => ?_)
  cases tk : takeS rs e2 with
  | none => simp only [tk] at h2; exact h2.elim
  | some zz =>
    obtain ⟨as, e3⟩ := zz
    simp only [tk] at h2
    obtain ⟨s7, l7⟩ := take_ok tk o2 s6
    split at h2
    case isFalse => exact h2.elim
    rename_i hn
    refine ⟨by simp [← l7, hn], dj :: as, (box d0 (ds.set j (.hol v)), some (.ref a)) :: (K ++ e3.zip σ), by simp [l7], ?_, ?_⟩
    · show SI H2 ((dj, some v) :: (as.zip (us.map some) ++ _))
      have := s7.si
      rw [List.append_assoc] at this
      exact this.perm List.perm_middle
    · cases ge : g (dj :: as) with
      | no => rw [ge] at h2; exact h2.elim
      | er x e => rw [ge] at h2; exact fun H' da s' => h2 H' da ⟨s7.len, SI.mid (A := [_]) (B := [(box d0 (ds.set j (.hol v)), some (.ref a))]) (by simpa using s')⟩
      | ok r fin =>
        rw [ge] at h2
        intro w H' s'
        cases fin with
        | nil => exact h2.elim
        | cons dj' fin =>
          simp only at h2
          refine h2 w H' ?_ trivial
          have hjl : j < ds.length := (List.getElem?_eq_some_iff.mp hdj).1
          have s8 : SI H' ((dj', some v) :: (box d0 (ds.set j (.hol v)), some (.ref a)) :: ((r, some w) :: (fin.zip (us.map some) ++ (K ++ e3.zip σ)))) := s'.perm (by
            show ((r, some w) :: (dj', some v) :: (fin.zip (us.map some) ++ (box d0 (ds.set j (.hol v)), some (.ref a)) :: (K ++ e3.zip σ))).Perm _
            refine (List.Perm.swap _ _ _).trans (List.Perm.cons _ ?_)
            refine (List.perm_middle.cons _).trans (List.Perm.swap _ _ _))
          have s9 := SI.join (kids_box hkd) s8 (List.getElem?_set_self hjl)
          rw [box_box, List.set_set] at s9
          have s10 : Stt H' (fin.zip (us.map some) ++ ((box d0 (ds.set j dj'), some (.ref a)) :: (r, some w) :: K)) e3 σ := ⟨s7.len, s9.perm (by
            rw [List.append_assoc]
            refine List.Perm.trans ?_ List.perm_middle.symm
            exact (List.perm_middle.symm).cons _)⟩
          have s11 := put_ok o2 s10
          have hi : i < (putS rs fin e3).length := by rw [s11.len]; exact (List.getElem?_eq_some_iff.mp hv0).1
          have s12 := s11.put hi
          rw [set_self hv0] at s12
          exact s12
theorem ej_callP {i k n : Nat} {f : Addr} {fd : FuncData} {ps : List Str} {g : Fv} {x y : Str} {p p1 p2 pos : Pos} {ke : Expr} {es : List Expr} {fk : Ev} {fa : Av} (tk : Takes X W) (F : FnOk X.prog X.w X.K X.mg X.base (L2.CX X.prog X.w) k f fd ps (spD n g)) (hr : Room k X.A) (hg : Gl X x) (hm : X.mg x = some (.ref f))
    (hk : PySem.W.keepIn X.K (.ref f) = true) (hb : Binds X.K fd ps []) (hN : X.N[i]? = some y) (hv : Vis X.env.scope y) (hke : EJ X W ke fk) (ha : AJ X W es fa) (hd : (y == ("__debug__" : Str)) = false := by decide) (hcd : (y == ("__classdict__" : Str)) = false := by decide) (hs0 : PlainIx ke := by intro _ _; rfl) (hdb : (x == ("__debug__" : Str)) = false := by decide)
    (he : starEach (.Subscript (.Name y p1) ke p2 :: es) X.env = (false, eval (.Subscript (.Name y p1) ke p2) X.env) :: starEach es X.env := by rfl) (hpl : (backTo pos (starEach es X.env)).any (·.1) = false := by rfl) :
    EJ X W (.Call (.Name x p) (.Subscript (.Name y p1) ke p2 :: es) [] pos) (eCallP i n g fk fa) := by
  obtain ⟨t, q, kk⟩ := ha
  obtain ⟨t2, q2, kk2⟩ := hke
  exact ⟨_, pe_callS F hr hg hm hk hb (fun σ => passAt tk σ) (pa_cons (pe_ix (IxR.or ix_list ix_tup) (pe_var hN hv hd hcd) q2 hs0) q he) hdb he hpl, eok_callP kk2 kk⟩
/-- for y in x: x our own list, its items given away -/
def sForMv (i : Nat) (g : Gv) (b : Sv) : Sv := fun e => match e[i]? with
  | some (.lst true ds) => (forD g b ds (e.set i .jnk)).bind fun o e2 => .ok o (e2.set i (.lst true (ds.map fun _ => .jnk)))
  | _ => .no

theorem jnkReps {G H : Hp} : ∀ {ds : List D} {vs : List V}, ds.length = vs.length → Reps G H (ds.map fun _ => D.jnk) vs []
  | [], [], h => by unfold Reps; exact ⟨rfl, rfl⟩
  | [], _ :: _, h => by cases h
  | _ :: _, [], h => by cases h
  | d :: ds, v :: vs, h => by
    show Reps G H (D.jnk :: ds.map fun _ => D.jnk) (v :: vs) []
    unfold Reps
    exact ⟨v, vs, [], [], rfl, rfl, by unfold Rep; rfl, jnkReps (by simpa using h)⟩
theorem SI.jnkL {H : Hp} {ds ds' : List D} {o : Option V} {L : List Ent} (h : SI H ((.lst true ds, o) :: L)) (e : ds'.length = ds.length) : SI H ((.lst true (ds'.map fun _ => D.jnk), o) :: L) := by
  obtain ⟨G, F, ⟨F1, F2, ef, r1, r2⟩, nd, gn, l⟩ := h
  subst ef
  unfold Rep at r1
  obtain ⟨a, vs, F3, e0, r3, ha, e3⟩ := r1
  subst e3
  have hl := (RepL.of_reps r3).2
  have nd' : (a :: (F3 ++ F2)).Nodup := nd
  have n1 := List.nodup_cons.mp nd'
  have n2 := List.nodup_append.mp n1.2
  refine ⟨G, [a] ++ F2, ⟨[a], F2, rfl, ?_, r2⟩, List.nodup_cons.mpr ⟨fun z => n1.1 (List.mem_append_right _ z), n2.2.1⟩, fun x hx => gn x ?_, l⟩
  · unfold Rep; exact ⟨a, vs, [], e0, jnkReps (e.trans hl), ha, rfl⟩
  · rcases List.mem_cons.mp hx with rfl | hx
    · simp
    · simp [show x ∈ F2 from hx]
theorem sok_forMv {i : Nat} {tg : TG} {tb : TS} {g : Gv} {b : Sv} {Kf : PySem.W.Frag} (hi : P.contains i = true) (hg : GOk P tg g) (hb : SOk W P tb b) : SOk W P (tFor (iSeq Kf (tVar i)) tg tb) (sForMv i g b) := by
  intro env σ K H Dn s m
  unfold sForMv at m
  split at m
  case h_2 => exact m.elim
  rename_i ds hds
  obtain ⟨v0, hv0⟩ := slot_some s hds rfl
  have s1 := Stt.swap (y := .jnk) (o := some v0) ⟨s.len, SI.jnk s.si⟩ hds hv0
  obtain ⟨a, vs0, ev, ha0, _⟩ := s1.si.pk.lst
  subst ev
  have hiP : i ∈ P := List.contains_iff_mem.mp hi
  have put : ∀ (ds' : List D) (σ' : L2.St) (H' : Hp) (K0 : List Ent) (e2 : EnvD), ds'.length = ds.length → Pin P σ σ' → Stt H' ((.lst true ds', some (.ref a)) :: K0) e2 σ' → Stt H' K0 (e2.set i (.lst true (ds.map fun _ => D.jnk))) σ' := by
    intro ds' σ' H' K0 e2 hl pn s'
    have s2 : Stt H' ((.lst true (ds.map fun _ => D.jnk), some (.ref a)) :: K0) e2 σ' := ⟨s'.len, SI.jnkL s'.si hl.symm⟩
    have hv' : σ'[i]? = some (some (.ref a)) := by rw [pn.2 i hiP]; exact hv0
    have hl' : i < e2.length := by rw [s'.len]; exact (List.getElem?_eq_some_iff.mp hv').1
    have s3 := s2.put hl'
    rwa [set_self hv'] at s3
  refine ⟨.ref a, hv0, a, rfl, .inl ⟨⟨vs0, .inl (.inl ha0)⟩, fun k m σ' H' => m = ds.length - k ∧ k ≤ ds.length ∧ Pin P σ σ' ∧ ∃ e, Stt H' ((.lst true (List.replicate k .jnk ++ ds.drop k), some (.ref a)) :: K) e σ' ∧
    SPost W P K σ Dn ((forD g b (ds.drop k) e).bind fun o e2 => .ok o (e2.set i (.lst true (ds.map fun _ => D.jnk)))), ⟨ds.length, by simp, Nat.zero_le _, Pin.refl, _, by simpa using s1, by simpa using m⟩, ?_⟩⟩
  rintro k m σ2 H2 ⟨rfl, hk, pn, e, s2, q⟩
  obtain ⟨a', vs, ev, ha, pk⟩ := s2.si.pk.lst
  cases ev
  have hvl : vs.length = ds.length := by have := pk.1; simp at this; omega
  by_cases c : k < ds.length
  · refine .inr ?_
    have hget : (List.replicate k D.jnk ++ ds.drop k)[k]? = some ds[k] := by
      rw [List.getElem?_append_right (by simp)]
      simp [c]
    obtain ⟨a2, vs2, v, ev2, sq, hl2, hv2, s3⟩ := SI.split s2.si (d0 := .lst true (List.replicate k D.jnk ++ ds.drop k)) rfl hget
    cases ev2
    have sq' : H2 a = some (.lst vs2) := sq
    refine ⟨⟨vs2, v, .inl (.inl sq'), hv2⟩, fun σ' H' => k + 1 ≤ ds.length ∧ Pin P σ σ' ∧ ∃ e, Stt H' ((.lst true (List.replicate (k + 1) .jnk ++ ds.drop (k + 1)), some (.ref a)) :: K) e σ' ∧
      SPost W P K σ Dn ((forD g b (ds.drop (k + 1)) e).bind fun o e2 => .ok o (e2.set i (.lst true (ds.map fun _ => D.jnk)))), fun σ' H' ⟨a1, a2, a3⟩ => ⟨ds.length - (k + 1), by omega, rfl, a1, a2, a3⟩, fun x H3 ⟨eH, hx⟩ => ?_⟩
    subst eH
    have := hx vs2 (.inl (.inl sq'))
    rw [hv2] at this
    cases this
    -- the hole is dropped
    have hset : (List.replicate k D.jnk ++ ds.drop k).set k .jnk = List.replicate (k + 1) .jnk ++ ds.drop (k + 1) := by
      have hz : k - (List.replicate k D.jnk).length = 0 := by simp
      rw [List.set_append_right _ _ (by simp), List.drop_eq_getElem_cons c, hz, List.set_cons_zero, List.replicate_succ', List.append_assoc]
      rfl
    have hlen : k < (List.replicate k D.jnk ++ ds.drop k).length := by simp; omega
    have s4 : SI H3 ((.jnk, some v) :: (box (.lst true (List.replicate k D.jnk ++ ds.drop k)) ((List.replicate k D.jnk ++ ds.drop k).set k (.hol v)), some (.ref a)) :: (ds[k], some v) :: (K ++ e.zip σ2)) := SI.jnk (s3.perm (List.Perm.swap _ _ _))
    have s5 := SI.join (kids_box (d0 := .lst true (List.replicate k D.jnk ++ ds.drop k)) rfl) s4 (List.getElem?_set_self hlen)
    rw [box_box, List.set_set, hset] at s5
    have s6 : Stt H3 ((ds[k], some v) :: (.lst true (List.replicate (k + 1) .jnk ++ ds.drop (k + 1)), some (.ref a)) :: K) e σ2 := ⟨s2.len, s5.perm (List.Perm.swap _ _ _)⟩
    rw [List.drop_eq_getElem_cons c] at q
    unfold forD at q
    cases ge : g ds[k] e with
    | none => rw [ge] at q; exact q.elim
    | some e3 =>
      rw [ge] at q
      simp only at q
      refine hg e σ2 _ H3 v ds[k] e3 _ s6 ge fun σ4 H4 pn4 s7 => ?_
      refine hb e3 σ4 _ H4 _ s7 ?_
      have pn' := pn.trans pn4
      have fill : (List.replicate (k + 1) D.jnk ++ ds.drop (k + 1)).length = ds.length := by simp; omega
      cases be : b e3 with
      | no => rw [be] at q; exact q.elim
      | er x e5 =>
        rw [be] at q
        exact fun σ' H' da p s' => q σ' H' da (pn'.trans p) (Stt.mid (B := [(D.lst true (List.replicate (k + 1) D.jnk ++ ds.drop (k + 1)), some (V.ref a))]) s')
      | ok o e5 =>
        rw [be] at q
        cases o with
        | nx => exact fun σ' H' p s' => ⟨c, pn'.trans p, e5, s', q⟩
        | ct => exact fun σ' H' p s' => ⟨c, pn'.trans p, e5, s', q⟩
        | bk => exact fun σ' H' p s' => q σ' H' (pn'.trans p) (put _ σ' H' K e5 fill (pn'.trans p) s')
        | rt d =>
          refine fun w σ' H' p s' => q w σ' H' (pn'.trans p) (put _ σ' H' ((d, some w) :: K) e5 fill (pn'.trans p) ?_)
          exact s'.perm (List.Perm.swap _ _ _)
  · refine .inl ⟨⟨vs, .inl (.inl ha), by omega⟩, ?_⟩
    have hk' : k = ds.length := by omega
    subst hk'
    rw [List.drop_eq_nil_of_le (Nat.le_refl _)] at q s2
    exact q σ2 H2 pn (put _ σ2 H2 K e (by simp) pn s2)
theorem sj_forMv {i : Nat} {x : Str} {tg : Expr} {body : List Stmt} {g : Gv} {b : Sv} {p1 pos : Pos} (hi : P.contains i = true) (hN : X.N[i]? = some x) (hv : Vis X.env.scope x) (hp : PassesOwn (model X.prog X.w) X.A X.env X.xe) (hc : X.calm = true) (hg : GJ X P tg g) (hb : BJ X W P body b) (hd : (x == ("__debug__" : Str)) = false := by decide) (hcd : (x == ("__classdict__" : Str)) = false := by decide)
    (hs : ∀ y, foldedSetIterable (.Name x p1) X.env y = pure y := by intro _; rfl) : SJ X W P (.For tg (.Name x p1) body [] pos) (sForMv i g b) := by
  obtain ⟨t, p2, k2⟩ := hg
  obtain ⟨tb, p3, k3⟩ := hb
  exact ⟨_, ps_for hp hc (pi_seq (pe_var hN hv hd hcd)) p2 p3 hs, sok_forMv hi k2 k3⟩
end VS
set_option Elab.async false
set_option linter.all false
set_option maxRecDepth 100000
namespace VS
open PySem PySem.Spec PyProof.Rows L2
variable {X : Cx} {W : WX} {P : List Nat}

/-- a def, by where it stands -/
def FOk (Pg : Program) (w : World) (K : PySem.W.Frag) (mg : Str → Option Value) (base : Heap) (k : Nat) (p : Str × Option Str) (ps : List Str) (n : Nat) (g : Fv) : Prop :=
  ∃ fd, FnOk Pg w K mg base (L2.CX Pg w) k (He.fAd K p) fd ps (spD n g) ∧ Binds K fd ps [] ∧ PySem.W.keepIn K (.ref (He.fAd K p)) = true
theorem hu65 {k : Nat} {A : Around} (r : Room k A) : A.units + 65 < cLine := by have := r.un; omega
theorem fn_jF {Pg : Program} {w : World} {K : PySem.W.Frag} {mg : Str → Option Value} {base : Heap} {x qual : Str} {params : Arguments} {body : List Stmt} {scope : Scope} {p : Str × Option Str} {N ps : List Str} {k n ns : Nat} {b : Sv} (F : ∃ fd, FunD K x qual params body scope [] [] (He.fAd K p) fd) (S : FnScope N ps scope)
    (hbind : ∀ (kV doc pm : Value) (an : Option Addr) (cdv ct : Value) (us : List Value), us.length = ps.length → bindArgs (PySem.W.fnOf x qual params body scope .none kV doc pm an cdv ct) ⟨us, []⟩ = pure (ps.zip us))
    (hn : ps.length = n) (hN : N.length = ns) (hle : n ≤ ns) (hP : P.all (fun j => decide (j < n)) = true)
    (hb : ∀ (cdv : Value) (A : Around) (outer : List Env) (s : Shared) (H : Hp) (E : XK), Room k (A.deeper (envOfC qual scope s.heap.objs.size (He.fAd K p) cdv)) →
      Takes (cxOf (L2.CX Pg w) Pg w K mg base N qual scope (He.fAd K p) cdv A outer s H E) (fun cls d _ H => E cls d H) →
      PassesOwn (model Pg w) (A.deeper (envOfC qual scope s.heap.objs.size (He.fAd K p) cdv)) (envOfC qual scope s.heap.objs.size (He.fAd K p) cdv) (cxOf (L2.CX Pg w) Pg w K mg base N qual scope (He.fAd K p) cdv A outer s H E).xe →
      BJ (cxOf (L2.CX Pg w) Pg w K mg base N qual scope (He.fAd K p) cdv A outer s H E) (fun cls d _ H => E cls d H) P body b) :
    FOk Pg w K mg base (k + 1) p ps n (fnD P n ns b) := by
  obtain ⟨fd, F⟩ := F
  exact ⟨fd, fn_j F S hn hN hle hP hb, F.bindsN hbind, F.kp⟩
theorem FOk.mono {Pg : Program} {w : World} {K : PySem.W.Frag} {mg : Str → Option Value} {base : Heap} {k k' : Nat} {p : Str × Option Str} {ps : List Str} {n : Nat} {g : Fv} (F : FOk Pg w K mg base k p ps n g) (h : k ≤ k') : FOk Pg w K mg base k' p ps n g := by
  obtain ⟨fd, F, a, b⟩ := F
  exact ⟨fd, F.mono h, a, b⟩
section
variable {k kk n : Nat} {C : Addr} {ps : List Str} {g : Fv} {x m y cn : Str} {p q p1 p2 pos apos : Pos} {e o ke : Expr} {es : List Expr} {fo fk : Ev} {fa : Av}
theorem ejF (tk : Takes X W) (F : FOk X.prog X.w X.K X.mg X.base k (x, none) ps n g) (hr : Room kk X.A) (hm : X.mg x = some (.ref (He.ga X.K x))) (ha : AJ X W (e :: es) fa) (hk : k ≤ kk := by decide) (hg : Gl X x := by rfl) (hdb : (x == ("__debug__" : Str)) = false := by decide) (he : starEach (e :: es) X.env = (false, eval e X.env) :: starEach es X.env := by rfl) (hpl : (backTo pos (starEach es X.env)).any (·.1) = false := by rfl) :
    EJ X W (.Call (.Name x p) (e :: es) [] pos) (eCall n g fa) := by
  obtain ⟨fd, F, hb, hkp⟩ := F
  exact ej_call tk F (hr.mono hk) hg hm hkp hb ha hdb he hpl
theorem ejFP {i : Nat} (tk : Takes X W) (F : FOk X.prog X.w X.K X.mg X.base k (x, none) ps n g) (hr : Room kk X.A) (hm : X.mg x = some (.ref (He.ga X.K x))) (hke : EJ X W ke fk) (ha : AJ X W es fa) (hN : X.N[i]? = some y := by rfl) (hv : Vis X.env.scope y := by first | exact Or.inl rfl | exact Or.inr (Or.inl rfl) | exact Or.inr (Or.inr rfl)) (hk : k ≤ kk := by decide) (hg : Gl X x := by rfl) (hd : (y == ("__debug__" : Str)) = false := by decide) (hcd : (y == ("__classdict__" : Str)) = false := by decide) (hs0 : PlainIx ke := by intro _ _; rfl) (hdb : (x == ("__debug__" : Str)) = false := by decide)
    (he : starEach (.Subscript (.Name y p1) ke p2 :: es) X.env = (false, eval (.Subscript (.Name y p1) ke p2) X.env) :: starEach es X.env := by rfl) (hpl : (backTo pos (starEach es X.env)).any (·.1) = false := by rfl) :
    EJ X W (.Call (.Name x p) (.Subscript (.Name y p1) ke p2 :: es) [] pos) (eCallP i n g fk fa) := by
  obtain ⟨fd, F, hb, hkp⟩ := F
  exact ej_callP tk F (hr.mono hk) hg hm hkp hb hN hv hke ha hd hcd hs0 hdb he hpl
theorem ejMeth {pl : Sem Bool} (tk : Takes X W) (c : Cls X.K (He.ga X.K cn)) (hm : Meth X.K (He.ga X.K cn) m (He.ma X.K (He.ga X.K cn) m)) (F : FOk X.prog X.w X.K X.mg X.base k (cn, some m) ps n g) (hr : Room kk X.A) (ho : EJ X W o fo) (ha : AJ X W (e :: es) fa) (hk : k ≤ kk := by decide)
    (hst : starEach (e :: es) X.env = (false, eval e X.env) :: starEach es X.env := by rfl) (hpl : (backTo pos (starEach es X.env)).any (·.1) = false := by rfl)
    (ht : eval (.Call (.Attribute o m apos) (e :: es) [] pos) X.env = (do
      let ov ← eval o X.env
      standAt apos.atName
      let (f, first) ← holding [ov] (getMethod ov m pl)
      callWith pos f first (backTo pos (starEach (e :: es) X.env)) (backToKw pos (keywordEach [] X.env))) := by rfl) :
    EJ X W (.Call (.Attribute o m apos) (e :: es) [] pos) (eMeth (He.ga X.K cn) m n g fo fa) := by
  obtain ⟨fd, F, hb, hkp⟩ := F
  exact ej_meth tk c hm F (hr.mono hk) hb ho ha hst hpl ht
theorem ejMeth0 {pl : Sem Bool} (tk : Takes X W) (c : Cls X.K (He.ga X.K cn)) (hm : Meth X.K (He.ga X.K cn) m (He.ma X.K (He.ga X.K cn) m)) (F : FOk X.prog X.w X.K X.mg X.base k (cn, some m) ps n g) (hr : Room kk X.A) (ho : EJ X W o fo) (hk : k ≤ kk := by decide)
    (ht : eval (.Call (.Attribute o m apos) [] [] pos) X.env = (do
      let ov ← eval o X.env
      standAt apos.atName
      let (f, first) ← holding [ov] (getMethod ov m pl)
      callWith pos f first (backTo pos (starEach [] X.env)) (backToKw pos (keywordEach [] X.env))) := by rfl) :
    EJ X W (.Call (.Attribute o m apos) [] [] pos) (eMeth (He.ga X.K cn) m n g fo aNil) := by
  obtain ⟨fd, F, hb, hkp⟩ := F
  exact ej_meth0 tk c hm F (hr.mono hk) hb ho ht
theorem ejMake (tk : Takes X W) (M0 : Mk X.K (He.ga X.K x) (He.ma X.K (He.ga X.K x) "__init__")) (F : FOk X.prog X.w X.K X.mg X.base k (x, some "__init__") ps n g) (hr : Room kk X.A) (hm : X.mg x = some (.ref (He.ga X.K x)))
    (ha : AJ X W (e :: es) fa) (hk : k + 1 ≤ kk := by decide) (hg : Gl X x := by rfl) (hdb : (x == ("__debug__" : Str)) = false := by decide) (he : starEach (e :: es) X.env = (false, eval e X.env) :: starEach es X.env := by rfl) (hpl : (backTo pos (starEach es X.env)).any (·.1) = false := by rfl) :
    EJ X W (.Call (.Name x p) (e :: es) [] pos) (eMake (He.ga X.K x) n g fa) := by
  obtain ⟨fd, F, hb, hkp⟩ := F
  exact ej_make tk M0 F (hr.mono hk) hg hm hb ha hdb he hpl
theorem ejProp {pp gg : Addr} (c : Cls X.K (He.ga X.K cn)) (hp : PropOf X.K (He.ga X.K cn) m pp (He.fAd X.K (cn, some m))) (F : FOk X.prog X.w X.K X.mg X.base k (cn, some m) ps 1 g) (hr : Room kk X.A) (ho : EJ X W o fo) (hk : k + 1 ≤ kk := by decide)
    (hab : attributeBase o m X.env (eval o X.env) = eval o X.env := by rfl) : EJ X W (.Attribute o m pos) (eProp (He.ga X.K cn) g fo) := by
  obtain ⟨fd, F, hb, hkp⟩ := F
  exact ej_prop c hp F (hr.mono hk) hb ho hab
end
section
variable {x : Str} {e : Expr} {f : Ev} {pos pos' : Pos}
theorem xset (i : Nat) (h : EJ X W e f) (hN : X.N.Nodup) (hi' : P.contains i = false := by rfl) (hi : X.N[i]? = some x := by rfl) (hx : Loc X.env.scope x := by first | exact Or.inl rfl | exact Or.inr rfl) (hs : swapsWith e (some (.Name x pos')) pos.line X.env = pure false := by rfl) (hf : X.fn x = true ∨ X.env.scope.names.lookup x = some .local := by first | exact .inl rfl | exact .inr rfl | assumption) : SJ X W P (.Assign [.Name x pos'] e pos) (sAs (gN i) f) := sj_set hi' hN hi hx h hs hf
theorem xg (i : Nat) (hN : X.N.Nodup) (hi' : P.contains i = false := by rfl) (hi : X.N[i]? = some x := by rfl) (hx : Loc X.env.scope x := by first | exact Or.inl rfl | exact Or.inr rfl) (hf : X.fn x = true ∨ X.env.scope.names.lookup x = some .local := by first | exact .inl rfl | exact .inr rfl | assumption) : GJ X P (.Name x pos) (gN i) := gj_name hi' hN hi hx hf
theorem ej_neg {a : Expr} {fa : Ev} {pos : Pos} (ha : EJ X W a fa) : EJ X W (.UnaryOp .USub a pos) (eU gNeg fa) := by
  obtain ⟨t, p, k⟩ := ha
  refine ⟨_, pe_un un_neg p, eok_u (fun H L x dx z Q s mx hz q => ?_) k⟩
  unfold gNeg at hz
  split at hz
  · cases hz
    exact ⟨_, (s.pkm mx).atm, q _ H (s.atm nr_int)⟩
  · cases hz
end

section
variable {r : V → List V → Hp → VK → Prop} {g : List D → List D → Option (List D × D)} {x name : Str} {id : String} {ke e ve : Expr} {es : List Expr} {fa : Av} {fk fv : Ev} {pos spos apos cpos p1 p2 pos' : Pos}
theorem xmut (i : Nat) (slot : Slot "list" name id) (hty : typeOf (.builtin id) = pure (.type "method_descriptor")) (hm : MtR X id r) (hg : MutOk r g) (ha : AJ X W (e :: es) fa) (hN : X.N[i]? = some x := by rfl) (hv : Vis X.env.scope x := by first | exact Or.inl rfl | exact Or.inr (Or.inl rfl) | exact Or.inr (Or.inr rfl)) (hd : (x == ("__debug__" : Str)) = false := by decide) (hcd : (x == ("__classdict__" : Str)) = false := by decide)
    (hbase : attributeBase (.Name x pos) name X.env (eval (.Name x pos) X.env) = eval (.Name x pos) X.env := by rfl)
    (hfew : ((backTo cpos (starEach (e :: es) X.env)).all (fun x => !x.1) && (backToKw cpos (keywordEach [] X.env)).all (fun x => x.1.isSome)
      && decide ((e :: es).length + ([] : List Keyword).length + (if ([] : List Keyword).isEmpty then 0 else 1) < 30)) = true := by rfl)
    (hline : (apos.endLine == cpos.line) = true := by rfl) (hs : starEach (e :: es) X.env = (false, eval e X.env) :: starEach es X.env := by rfl) (hplain : (backTo cpos (starEach es X.env)).any (·.1) = false := by rfl) :
    EJ X W (.Call (.Attribute (.Name x pos) name apos) (e :: es) [] cpos) (eMut i g fa) := ej_mut slot hty hm hg hN hv ha hd hcd hbase hfew hline hs hplain
theorem xmut0 (i : Nat) (slot : Slot "list" name id) (hty : typeOf (.builtin id) = pure (.type "method_descriptor")) (hm : MtR X id r) (hg : MutOk r g) (hN : X.N[i]? = some x := by rfl) (hv : Vis X.env.scope x := by first | exact Or.inl rfl | exact Or.inr (Or.inl rfl) | exact Or.inr (Or.inr rfl)) (hd : (x == ("__debug__" : Str)) = false := by decide) (hcd : (x == ("__classdict__" : Str)) = false := by decide)
    (hbase : attributeBase (.Name x pos) name X.env (eval (.Name x pos) X.env) = eval (.Name x pos) X.env := by rfl) (hline : (apos.endLine == cpos.line) = true := by rfl) :
    EJ X W (.Call (.Attribute (.Name x pos) name apos) [] [] cpos) (eMut i g aNil) := ej_mut0 slot hty hm hg hN hv hd hcd hbase hline
theorem xmutP (i : Nat) (slot : Slot "list" name id) (hty : typeOf (.builtin id) = pure (.type "method_descriptor")) (hm : MtR X id r) (hg : MutOk r g) (hk : EJ X W ke fk) (ha : AJ X W (e :: es) fa) (hN : X.N[i]? = some x := by rfl) (hv : Vis X.env.scope x := by first | exact Or.inl rfl | exact Or.inr (Or.inl rfl) | exact Or.inr (Or.inr rfl)) (hd : (x == ("__debug__" : Str)) = false := by decide) (hcd : (x == ("__classdict__" : Str)) = false := by decide) (hs0 : PlainIx ke := by intro _ _; rfl)
    (hbase : attributeBase (.Subscript (.Name x pos) ke spos) name X.env (eval (.Subscript (.Name x pos) ke spos) X.env) = eval (.Subscript (.Name x pos) ke spos) X.env := by rfl)
    (hfew : ((backTo cpos (starEach (e :: es) X.env)).all (fun x => !x.1) && (backToKw cpos (keywordEach [] X.env)).all (fun x => x.1.isSome)
      && decide ((e :: es).length + ([] : List Keyword).length + (if ([] : List Keyword).isEmpty then 0 else 1) < 30)) = true := by rfl)
    (hline : (apos.endLine == cpos.line) = true := by rfl) (hs : starEach (e :: es) X.env = (false, eval e X.env) :: starEach es X.env := by rfl) (hplain : (backTo cpos (starEach es X.env)).any (·.1) = false := by rfl) :
    EJ X W (.Call (.Attribute (.Subscript (.Name x pos) ke spos) name apos) (e :: es) [] cpos) (eMutP i fk g fa) := ej_mutP slot hty hm hg hN hv hk ha hd hcd hs0 hbase hfew hline hs hplain
theorem xmutP0 (i : Nat) (slot : Slot "list" name id) (hty : typeOf (.builtin id) = pure (.type "method_descriptor")) (hm : MtR X id r) (hg : MutOk r g) (hk : EJ X W ke fk) (hN : X.N[i]? = some x := by rfl) (hv : Vis X.env.scope x := by first | exact Or.inl rfl | exact Or.inr (Or.inl rfl) | exact Or.inr (Or.inr rfl)) (hd : (x == ("__debug__" : Str)) = false := by decide) (hcd : (x == ("__classdict__" : Str)) = false := by decide) (hs0 : PlainIx ke := by intro _ _; rfl)
    (hbase : attributeBase (.Subscript (.Name x pos) ke spos) name X.env (eval (.Subscript (.Name x pos) ke spos) X.env) = eval (.Subscript (.Name x pos) ke spos) X.env := by rfl) (hline : (apos.endLine == cpos.line) = true := by rfl) :
    EJ X W (.Call (.Attribute (.Subscript (.Name x pos) ke spos) name apos) [] [] cpos) (eMutP i fk g aNil) := ej_mutP0 slot hty hm hg hN hv hk hd hcd hs0 hbase hline
theorem xsub (i : Nat) (hi : EJ X W ke fk) (hve : EJ X W ve fv) (hN : X.N[i]? = some x := by rfl) (hv : Vis X.env.scope x := by first | exact Or.inl rfl | exact Or.inr (Or.inl rfl) | exact Or.inr (Or.inr rfl)) (hd : (x == ("__debug__" : Str)) = false := by decide) (hcd : (x == ("__classdict__" : Str)) = false := by decide)
    (hs : swapsWithSole [.Subscript (.Name x p1) ke p2] ve pos.line X.env = pure false := by rfl) (hw : swappedStores [.Subscript (.Name x p1) ke p2] ve X.env = pure none := by rfl)
    (h1 : (assignEach [.Subscript (.Name x p1) ke p2] X.env).map (·.2) = [assign (.Subscript (.Name x p1) ke p2) X.env] := by rfl) (hpi : PlainIx ke := by intro _ _; rfl)
    (ha : ∀ v, assign (.Subscript (.Name x p1) ke p2) X.env v = (do
      let ov ← holding [v] (eval (.Name x p1) X.env)
      let iv ← holding [v, ov] (eval ke X.env)
      standAt p2
      holding [v, ov, iv] (setItem ov iv v)
      release [v, ov, iv] []) := by intro _; rfl) :
    SJ X W P (.Assign [.Subscript (.Name x p1) ke p2] ve pos) (sSub i fk fv) := sj_sub hN hv hi hve hd hcd hs hw h1 (ha := ha)
theorem xfw (i : Nat) {C : Addr} {f : Str} (c : Cls X.K C) (n : NoAttr X.K C f) (hve : EJ X W ve fv) (hN : X.N[i]? = some x := by rfl) (hv : Vis X.env.scope x := by first | exact Or.inl rfl | exact Or.inr (Or.inl rfl) | exact Or.inr (Or.inr rfl)) (hd : (x == ("__debug__" : Str)) = false := by decide) (hcd : (x == ("__classdict__" : Str)) = false := by decide)
    (hs : swapsWith ve (some (.Attribute (.Name x p1) f pos')) pos.line X.env = pure false := by rfl) : SJ X W P (.Assign [.Attribute (.Name x p1) f pos'] ve pos) (sFw i C f fv) := sj_fw c n hN hv hve hd hcd hs
theorem xforMv (i : Nat) {tg : Expr} {body : List Stmt} {gg : Gv} {b : Sv} (hp : PassesOwn (model X.prog X.w) X.A X.env X.xe) (hg : GJ X P tg gg) (hb : BJ X W P body b) (hi : P.contains i = true := by rfl) (hc : X.calm = true := by rfl) (hN : X.N[i]? = some x := by rfl) (hv : Vis X.env.scope x := by first | exact Or.inl rfl | exact Or.inr (Or.inl rfl) | exact Or.inr (Or.inr rfl)) (hd : (x == ("__debug__" : Str)) = false := by decide) (hcd : (x == ("__classdict__" : Str)) = false := by decide)
    (hs : ∀ y, foldedSetIterable (.Name x p1) X.env y = pure y := by intro _; rfl) : SJ X W P (.For tg (.Name x p1) body [] pos) (sForMv i gg b) := sj_forMv hi hN hv hp hc hg hb hd hcd hs
theorem sj_as {tg e : Expr} {f : Ev} {gg : Gv} (hg : GJ X P tg gg) (h : EJ X W e f) (hs : swapsWithSole [tg] e pos.line X.env = pure false := by rfl) (hw : swappedStores [tg] e X.env = pure none := by rfl)
    (h1 : (assignEach [tg] X.env).map (·.2) = [assign tg X.env] := by rfl) : SJ X W P (.Assign [tg] e pos) (sAs gg f) := by
  obtain ⟨t, p, k⟩ := h
  obtain ⟨t2, p2, k2⟩ := hg
  exact ⟨_, ps_asg p p2 hs hw h1, sok_as k k2⟩
end
theorem eok_frz {t : TE} {f : Ev} (k : EOk W t f) : EOk W t (eFrz f) := fun env σ K H Q s h => k env σ K H _ s (MPost.mono (MPost.bind0 h) fun r e1 h1 v H1 s1 o1 => by
  cases r with
  | slot i => exact h1.elim
  | val d => exact h1 v H1 ⟨s1.len, SI.fz s1.si⟩ trivial)
section
variable {elt tg iter : Expr} {ifs : List Expr} {scope : Scope} {own : List (Str × Nat)} {pos : Pos} {fi : Iv} {g : Gv} {tt : Tv} {te : Ev} {vs : List Nat}
theorem sj_setLcF {i : Nat} {y : Str} {py spos : Pos} (hi' : P.contains i = false) (hc : X.calm = true) (hN : X.N.Nodup) (hy : X.N[i]? = some y) (hyl : X.env.scope.names.lookup y = some .local)
    (hsw : swapsWith (.ListComp elt [⟨tg, iter, ifs, 0⟩] scope pos) (some (.Name y py)) spos.line X.env = pure true) (hi : IJ X W tg iter fi) (ok : BlkOk X.N X.env.scope scope own) (hv : own.map (·.2) = vs)
    (hg : ∀ (s : Shared) (H : Hp) (C : Addr) (cl : List (Str × Addr)) (fp : List Addr), GJ (X.blk s H scope (compEnvC scope cl C X.env) fp) (nP vs) tg g)
    (ht : ∀ (s : Shared) (H : Hp) (C : Addr) (cl : List (Str × Addr)) (fp : List Addr), TsJ (X.blk s H scope (compEnvC scope cl C X.env) fp) WF ifs tt)
    (he : ∀ (s : Shared) (H : Hp) (C : Addr) (cl : List (Str × Addr)) (fp : List Addr), EJ (X.blk s H scope (compEnvC scope cl C X.env) fp) WF elt te)
    (hs : ∀ x, foldedSetIterable iter X.env x = pure x := by intro _; rfl) : SJ X W P (.Assign [.Name y py] (.ListComp elt [⟨tg, iter, ifs, 0⟩] scope pos) spos) (sAs (gN i) (eFrz (eLc fi g tt te vs))) := by
  obtain ⟨wi, pi, ki⟩ := hi
  subst hv
  refine ⟨_, ps_setLc hc hN hy hyl hsw pi ok (fun s H C cl fp => (hg s H C cl fp).pg) (fun s H C cl fp => (ht s H C cl fp).pts) (fun s H C cl fp => (he s H C cl fp).pe) hs, sok_as (eok_frz (eok_lc ki)) ?_⟩
  refine fun env σ K H v d e' Q s h q => ?_
  unfold gN at h
  split at h
  · rename_i c
    cases h
    exact q _ H (pin_set (fun z => by rw [List.contains_iff_mem.mpr z] at hi'; cases hi')) (s.put c)
  · cases h
end
/-- list(range(n)) -/
def gLr : D → Option D
  | .atm (.int n) => if decide (0 ≤ n) && decide (n ≤ 16777216) then some (.lst true ((List.range n.toNat).map fun i => .atm (.int (0 + (i : Nat))))) else none
  | _ => none
theorem ej_listRg {a : Expr} {fa : Ev} {p p2 pos pos2 : Pos} (hc : X.calm = true) (hg : Gl X "list") (hm : X.mg "list" = none) (hg2 : Gl X "range") (hm2 : X.mg "range" = none) (ha : EJ X W a fa)
    (na : starEach [.Call (.Name "range" p2) [a] [] pos2] X.env = (false, eval (.Call (.Name "range" p2) [a] [] pos2) X.env) :: starEach [] X.env := by rfl) (na2 : starEach [a] X.env = (false, eval a X.env) :: starEach [] X.env := by rfl) :
    EJ X W (.Call (.Name "list" p) [.Call (.Name "range" p2) [a] [] pos2] [] pos) (eU gLr fa) := by
  obtain ⟨t, q, k⟩ := ha
  refine ⟨_, pe_listRg hc hg hm (prg_1 hg2 hm2 q na2) na, fun env σ K H Q s h => ?_⟩
  refine k env σ K H _ s (MPost.mono (MPost.bind0 h) fun ra e1 h1 x H1 s1 o1 => ?_)
  cases px : peek ra e1 with
  | none => simp only [px] at h1; exact h1.elim
  | some d =>
    simp only [px] at h1
    have m := mem_peek (L := ra.ent x ++ K ++ e1.zip σ) (e := e1) (σ := σ) o1 (fun p hp => by simp [hp]) (fun p hp => by simp [hp]) px
    unfold gLr at h1
    split at h1
    · rename_i n
      split at h1
      · rename_i c
        simp only [Bool.and_eq_true, decide_eq_true_eq] at c
        refine ⟨n, (s1.si.pkm m).atm, RgOk.of_le (by omega) c.2 (by omega) c.1, fun q hq => h1 _ _ ⟨s1.len, ?_⟩ trivial⟩
        have s2 : SI H1 (K ++ e1.zip σ) := SI.drops (M := ra.ent x) (by have := s1.si; rwa [List.append_assoc] at this)
        have e : rgV 0 n = ((List.range n.toNat).map fun i => (0 + ((i : Nat) : Int))).map V.int := by
          unfold rgV
          rw [List.map_map, Int.sub_zero]
          rfl
        rw [e]
        have s3 := SI.newL (s2.ints ((List.range n.toNat).map fun i => (0 + ((i : Nat) : Int)))) (by simp) hq
        have e2 : ((List.range n.toNat).map fun i => (0 + ((i : Nat) : Int))).map (fun n => D.atm (.int n)) = (List.range n.toNat).map fun i => D.atm (.int (0 + (i : Nat))) := by
          rw [List.map_map]; rfl
        rw [e2] at s3
        exact s3
      · exact h1.elim
    · exact h1.elim
end VS
set_option Elab.async false
set_option linter.all false
set_option maxRecDepth 100000
set_option maxHeartbeats 2000000
namespace VS
open PySem PySem.Spec PyProof.Rows L2
/-! ### a dict of pairs, made by a comprehension -/
theorem d_dictSetT {X : Cx} {pins : List (Addr × Obj)} {σ : L2.St} {H : Hp} {s : Shared} {E : Value → Shared → Prop} {D b : Addr} {kvs : List (List L2.Key × V)} {k : List L2.Key} {y v : V} {u r : Value} {Q : Unit → Shared → Prop} (hu : X.A.units + 65 < cLine)
    (I : Inv X pins σ H s) (hD : H D = some (.dT kvs)) (hb : y = .ref b ∧ H b = some (.tup (k.map kV))) (hz : kvs.length < sizeLine)
    (ry : RelV y u) (rv : RelV v r) (h : ∀ s', Inv X pins σ (upd H D (.dT (putK kvs k v))) s' → Q () s') : wpAny (model X.prog X.w) X.A (dictSet D u r) Q E s := by
  obtain ⟨ey, eb⟩ := hb
  subst ey
  cases (show u = Value.ref b from ry)
  obtain ⟨z, hd, xs, rel, dd⟩ := dt_of I.hok hD
  have hzx : xs.length ≤ sizeLine := by rw [← Paired.length rel]; exact z
  have hl : (putK kvs k v).length ≤ sizeLine := by have := length_putK kvs k v; omega
  refine wpAny_dictSet_heap (hsz := hzx) (show X.A.units < cLine by omega) (key_of I.hok eb) dd fun h' dd' hs => h _ ?_
  obtain ⟨q, es, ep, hq, h2, h3, h4, _, h5⟩ := dd'
  refine d_write I (by rw [hD]; exact True.intro) hs ⟨q, hq⟩ ⟨hl, hd, _, (rel.put k eb rv).keeps fun c ys ec => ?_, q, es, ep, hq, h2, h3, h4, h5⟩
  rw [upd_ne (ne_of ec hD (fun z => nomatch z))]
  exact ec
section
variable {Xc : Cx}
def tDcT (wi : TI) (g : TG) (tt : TT) (tk tv : TE) (vs : List Nat) : TE := fun σ H Q => wi σ H fun J H1 => ∀ D, H1 D = none → ∃ W : Nat → Nat → Hp → Prop, (∃ m, W 0 m (upd H1 D (.dT []))) ∧ ∀ i m H, W i m H →
  (J.stop i H ∧ Q (.ref D) H) ∨ (J.go i H ∧ ∃ Nx : Hp → Prop, (∀ H', Nx H' → ∃ m', m' < m ∧ W (i + 1) m' H') ∧ ∀ x H', J.yld i H x H' → g x (wipe σ vs) H' fun σ2 H2 => wipe σ2 vs = wipe σ vs ∧ tt σ2 H2 fun b H3 =>
    if b = true then tk σ2 H3 fun y H4 => tv σ2 H4 fun z H5 => ∃ kvs k kb, (y = .ref kb ∧ H5 kb = some (.tup (k.map kV))) ∧ H5 D = some (.dT kvs) ∧ kvs.length < sizeLine ∧ Nx (upd H5 D (.dT (putK kvs k z))) else Nx H3)
theorem dcT_core {pz : List (Addr × Obj)} {s : Shared} {σ : L2.St} {H : Hp} {Qw : VK} {kx vx tg iter : Expr} {ifs : List Expr} {scp : Scope} {ownl : List (Str × Nat)} {pos pos' : Pos} {wi : TI} {g : TG} {tt : TT} {tk tv : TE} {use : Option (Value → Sem Unit)} {Qf : Value → Shared → Prop}
    (hu : Xc.A.units + 65 < cLine) (hc : Xc.calm = true) (hN : Xc.N.Nodup) (Iv0 : Inv Xc pz σ H s) (hi : PI Xc tg iter wi) (okb : BlkOk Xc.N Xc.env.scope scp ownl)
    (hg : ∀ (s : Shared) (H : Hp) (Ca : Addr) (cl : List (Str × Addr)) (fpr : List Addr), PG (Xc.blk s H scp (compEnvC scp cl Ca Xc.env) fpr) tg g) (ht : ∀ (s : Shared) (H : Hp) (Ca : Addr) (cl : List (Str × Addr)) (fpr : List Addr), PTs (Xc.blk s H scp (compEnvC scp cl Ca Xc.env) fpr) ifs tt)
    (hk : ∀ (s : Shared) (H : Hp) (Ca : Addr) (cl : List (Str × Addr)) (fpr : List Addr), PE (Xc.blk s H scp (compEnvC scp cl Ca Xc.env) fpr) kx tk)
    (he : ∀ (s : Shared) (H : Hp) (Ca : Addr) (cl : List (Str × Addr)) (fpr : List Addr), PE (Xc.blk s H scp (compEnvC scp cl Ca Xc.env) fpr) vx tv) (hs : ∀ x, foldedSetIterable iter Xc.env x = pure x)
    (h : tDcT wi g tt tk tv (ownl.map (·.2)) σ H Qw)
    (hRR : ∀ Da Ca s' m H', Inv Xc pz σ H' s' → Qw (.ref Da) H' → s'.heap.Ns Ca m → FpOk Xc pz H' Ca → compPost (model Xc.prog Xc.w) Xc.A Xc.xe use Qf (.ref Da) Ca (.ok .next) s') :
    wpAny (model Xc.prog Xc.w) Xc.A (comprehension (.DictComp kx vx [⟨tg, iter, ifs, 0⟩] scp pos) scp Xc.env pos' newDict false (eval iter Xc.env) use) Qf Xc.xe s := by
  have hfree : ∀ y ∈ scp.names, y.2 = .free → ∃ c, Xc.env.cells.lookup y.1 = some c := fun y hy eq0 => by
    rcases okb.free y hy eq0 with k | k
    · exact Iv0.ok.has _ (.inl k)
    · exact Iv0.ok.has _ (.inr k)
  refine wpAny_comprehension_free (use := use) rfl hs (closure_ok hfree) okb.kind (fun y hy eq0 => by rw [okb.uniq y hy, eq0])
    (thn (hi.run pz s σ H _ Iv0 h) fun xv sh1 hx => thn hx fun itv sh2 h2 => ?_)
  obtain ⟨it, fpr, tnn, Jt, H2, eq0, I2, Tn, st2, f2, q⟩ := h2
  subst eq0
  refine wpAny_newObj_type (newEnv_comp ?_)
  generalize hDa : sh2.heap.objs.size = Da
  have hDn : H2 Da = none := I2.hok.fresh (Nat.le_of_eq hDa)
  obtain ⟨Ww, ⟨mm0, ww0⟩, tnw⟩ := q Da hDn
  -- the new list
  generalize hs3 : ({ sh2 with heap := sh2.heap.push { cls := .type "dict", data := .dict #[] } } : Shared) = sh3
  have Iv3 : Inv Xc pz σ (upd H2 Da (.dT [])) sh3 := by
    rw [← hs3]
    refine I2.laid (t' := sh2.toks) (fun ba ob eq0 => Heap.get?_push_of_some _ eq0) (Nat.le_of_eq hDa) ?_
    rw [← hDa]
    exact dt_empty sh2.heap I2.big
  have h3 : sh3.heap = sh2.heap.push { cls := .type "dict", data := .dict #[] } := by rw [← hs3]
  have sz : ∀ ba ∈ fpr, ba < sh2.heap.objs.size := fun ba hb => by
    obtain ⟨ob, eq0, _⟩ := Tn.obj _ _ st2 ba hb
    exact Heap.lt_size eq0
  have f3 : ∀ ba ∈ fpr, FpOk Xc pz (upd H2 Da (.dT [])) ba ∧ ba < sh3.heap.objs.size := fun ba hb => by
    have hlt := sz ba hb
    refine ⟨⟨?_, (f2 ba hb).2⟩, by rw [h3, Heap.size_push]; exact Nat.lt_succ_of_lt hlt⟩
    rw [upd_ne (by rw [← hDa]; exact Nat.ne_of_lt hlt)]
    exact (f2 ba hb).1
  have st3 : tnn 0 sh3.heap := Tn.keep _ _ _ st2 fun ba _ ob eq0 => by rw [h3]; exact Heap.get?_push_of_some _ eq0
  have Iv4 := block_start Iv3 okb hN f3
  have pg0 := hg sh3 (upd H2 Da (.dT [])) sh3.heap.objs.size (cellsFrom (sh3.heap.objs.size + 1) scp.names (cloFrom Xc.env.cells scp.names [])) fpr
  have pt0 := ht sh3 (upd H2 Da (.dT [])) sh3.heap.objs.size (cellsFrom (sh3.heap.objs.size + 1) scp.names (cloFrom Xc.env.cells scp.names [])) fpr
  have pk0 := hk sh3 (upd H2 Da (.dT [])) sh3.heap.objs.size (cellsFrom (sh3.heap.objs.size + 1) scp.names (cloFrom Xc.env.cells scp.names [])) fpr
  have pe0 := he sh3 (upd H2 Da (.dT [])) sh3.heap.objs.size (cellsFrom (sh3.heap.objs.size + 1) scp.names (cloFrom Xc.env.cells scp.names [])) fpr
  show codeAny _ _ (.compStart (.DictComp kx vx [⟨tg, iter, ifs, 0⟩] scp pos) 0 (.ref it) (.ref Da) (compEnvC scp (cellsFrom (sh3.heap.objs.size + 1) scp.names (cloFrom Xc.env.cells scp.names [])) sh3.heap.objs.size Xc.env)) (compPost (model Xc.prog Xc.w) Xc.A Xc.xe use Qf (.ref Da) sh3.heap.objs.size) { sh3 with heap := pushCells (sh3.heap.push { cls := .type "dict", data := .dict #[] }) scp.names }
  have nfp : ∀ ba ∈ fpr, (upd H2 Da (.dT [])) ba = none := fun ba hb => (f3 ba hb).1.1
  generalize hce : compEnvC scp (cellsFrom (sh3.heap.objs.size + 1) scp.names (cloFrom Xc.env.cells scp.names [])) sh3.heap.objs.size Xc.env = cen at Iv4 pg0 pt0 pk0 pe0 ⊢
  have cL : cen.locals = sh3.heap.objs.size := by subst hce; rfl
  generalize hH3 : upd H2 Da (.dT []) = Hc at Iv3 Iv4 pg0 pt0 pk0 pe0 ww0 nfp f3
  generalize hs4 : ({ sh3 with heap := pushCells (sh3.heap.push { cls := .type "dict", data := .dict #[] }) scp.names } : Shared) = sh4 at Iv4 ⊢
  have st4 : tnn 0 sh4.heap := Tn.keep _ _ _ st3 fun ba _ ob eq0 => by rw [← hs4]; exact pushCells_keeps _ _ _ _ (Heap.get?_push_of_some _ eq0)
  have stat : ∀ {σ' : L2.St} {H' : Hp} {s' : Shared}, Inv (Xc.blk sh3 Hc scp cen fpr) [] σ' H' s' → (∀ ba ∈ fpr, H' ba = none) → ∀ ba ∈ fpr, FpOk (Xc.blk sh3 Hc scp cen fpr) [] H' ba := fun {σ' H' s'} I' hns ba hb =>
    ⟨hns ba hb, (I'.ok.exf ba hb).1, I'.ok.exfs ba hb, .inl hb, fun x c eq0 => (I'.ok.exf ba hb).2 x c eq0, fun p hp => absurd (show p ∈ ([] : List (Addr × Obj)) ++ [] from hp) (by simp)⟩
  have loop : codeAny (model Xc.prog Xc.w) Xc.A (.compLoop (.DictComp kx vx [⟨tg, iter, ifs, 0⟩] scp pos) 0 (.ref it) (.ref Da) cen) (compPost (model Xc.prog Xc.w) Xc.A Xc.xe use Qf (.ref Da) sh3.heap.objs.size) sh4 := by
    refine compLoop_anyD (fun n s' => ∃ i H', Inv (Xc.blk sh3 Hc scp cen fpr) [] (wipe σ (ownl.map (·.2))) H' s' ∧ tnn i s'.heap ∧ (∀ ba ∈ fpr, H' ba = none) ∧ Ww i n H') ?_ mm0 ⟨0, Hc, Iv4, st4, nfp, ww0⟩
    rintro n sh5 ⟨i, He5, Iv5, st5, n5, w5⟩
    rcases tnw i n He5 w5 with ⟨stop, qq⟩ | ⟨go, Nx, hNx, step⟩
    · have td := Tn.done (Xc.blk sh3 Hc scp cen fpr) rfl rfl rfl hc i [] sh5 _ He5 (fun _ _ => False) Iv5 (stat Iv5 n5) st5 stop
      refine thnF td fun r sh6 ⟨hr, Iv6⟩ => ?_
      subst hr
      -- back in the def's context
      have Iv7 : Inv Xc pz σ He5 sh6 := Iv3.call' (ch := fpr) Iv6.os Iv6.base Iv6.hok Iv6.bare fun ba hb => ⟨(f3 ba hb).1.2.2.2.1, (f3 ba hb).1.2.1, (f3 ba hb).1.2.2.2.2.1, (f3 ba hb).1.2.2.2.2.2⟩
      have nC : He5 sh3.heap.objs.size = none := by
        have z : He5 cen.locals = none := Iv6.free
        rw [cL] at z
        exact z
      obtain ⟨m, hns, _⟩ := Iv6.loc
      have hns : sh6.heap.Ns cen.locals m := hns
      rw [cL] at hns
      exact hRR Da sh3.heap.objs.size sh6 m He5 Iv7 qq hns (Iv3.fpOk (Nat.le_refl _) nC)
    · have ti := Tn.item (Xc.blk sh3 Hc scp cen fpr) rfl rfl rfl hc i [] sh5 _ He5 (fun _ _ => False) Iv5 (stat Iv5 n5) st5 go
      refine thnF ti fun r sh6 ⟨u, hr, h6⟩ => ?_
      subst hr
      refine thnF h6 fun _ sh7 ⟨x, He7, Iv7, r7, y7, st7, n7⟩ => ?_
      have I7' := Iv7.pinned (stat Iv7 n7) (Tn.obj _ _ st7)
      refine thnF (pg0.run _ sh7 _ He7 x u _ I7' r7 (step x He7 y7)) fun _ sh8 ⟨σ8, H8, I8, hw8, q8⟩ => ?_
      refine thnF (pt0.run _ sh8 σ8 H8 _ I8 q8) fun ba sh9 ⟨H9, I9, q9⟩ => ?_
      -- the turn's end
      have fin : ∀ {s' : Shared} {H' : Hp}, Inv (Xc.blk sh3 Hc scp cen fpr) ([] ++ pinsAt fpr sh7.heap) σ8 H' s' → Nx H' → ∃ m, m < n ∧ ∃ i H', Inv (Xc.blk sh3 Hc scp cen fpr) [] (wipe σ (ownl.map (·.2))) H' s' ∧ tnn i s'.heap ∧ (∀ ba ∈ fpr, H' ba = none) ∧ Ww i m H' := fun {s' H'} I' nx => by
        obtain ⟨m', hm, w'⟩ := hNx H' nx
        have pin' : ∀ ba ∈ fpr, ∀ ob, sh7.heap.get? ba = some ob → s'.heap.get? ba = some ob ∧ H' ba = none := fun ba hb ob eq0 =>
          let z := I'.pin (ba, ob) (List.mem_append_right _ (List.mem_append_right _ (mem_pinsAt hb eq0)))
          ⟨z.1, z.2.1⟩
        have hl : (wipe σ (ownl.map (·.2))).length = σ8.length := by rw [← hw8, wipe_length]
        refine ⟨m', hm, i + 1, H', (I'.unpinned (pins := [])).weak hl (fun j v eq0 => ?_), Tn.keep _ _ _ st7 fun ba hb ob eq0 => (pin' ba hb ob eq0).1, fun ba hb => ?_, w'⟩
        · rw [← hw8] at eq0
          exact (wipe_some eq0).1
        · obtain ⟨ob, eq0, _⟩ := Tn.obj _ _ st7 ba hb
          exact (pin' ba hb ob eq0).2
      cases ba with
      | false =>
        simp only [Bool.false_eq_true, if_false] at q9 ⊢
        exact fin I9 q9
      | true =>
        simp only [if_true] at q9 ⊢
        refine thnF (pk0.run _ sh9 σ8 H9 _ I9 q9) fun z sh10 ⟨yk, H10, I10, r10, q10⟩ => ?_
        refine thnF (pe0.run _ sh10 σ8 H10 _ I10 q10) fun z2 sh11 ⟨yv, H11, I11, r11, kvs, k, kb, hkb, hD11, hz11, nx⟩ => ?_
        exact d_dictSetT (X := Xc.blk sh3 Hc scp cen fpr) hu I11 hD11 hkb hz11 r10 r11 fun sh12 I12 => fin I12 nx
  exact codeAny_compStart_dict loop (Tn.self Xc.A 0 _ _ _ st4 loop)
/-- as a value -/
theorem peT_dc {kx vx tg iter : Expr} {ifs : List Expr} {scp : Scope} {ownl : List (Str × Nat)} {pos : Pos} {wi : TI} {g : TG} {tt : TT} {tk tv : TE} (hu : Xc.A.units + 65 < cLine) (hc : Xc.calm = true) (hN : Xc.N.Nodup) (hi : PI Xc tg iter wi) (okb : BlkOk Xc.N Xc.env.scope scp ownl)
    (hg : ∀ (s : Shared) (H : Hp) (Ca : Addr) (cl : List (Str × Addr)) (fpr : List Addr), PG (Xc.blk s H scp (compEnvC scp cl Ca Xc.env) fpr) tg g) (ht : ∀ (s : Shared) (H : Hp) (Ca : Addr) (cl : List (Str × Addr)) (fpr : List Addr), PTs (Xc.blk s H scp (compEnvC scp cl Ca Xc.env) fpr) ifs tt)
    (hk : ∀ (s : Shared) (H : Hp) (Ca : Addr) (cl : List (Str × Addr)) (fpr : List Addr), PE (Xc.blk s H scp (compEnvC scp cl Ca Xc.env) fpr) kx tk)
    (he : ∀ (s : Shared) (H : Hp) (Ca : Addr) (cl : List (Str × Addr)) (fpr : List Addr), PE (Xc.blk s H scp (compEnvC scp cl Ca Xc.env) fpr) vx tv) (hs : ∀ x, foldedSetIterable iter Xc.env x = pure x := by intro _; rfl) :
    PE Xc (.DictComp kx vx [⟨tg, iter, ifs, 0⟩] scp pos) (tDcT wi g tt tk tv (ownl.map (·.2))) := by
  refine ⟨fun pz s σ H Qw Iv0 h => ?_⟩
  rw [arm_eval_DictComp]
  refine dcT_core hu hc hN Iv0 hi okb hg ht hk he hs h fun Da Ca s' m H' I' q hns f => ⟨m, hns, fun h'' sb => ?_⟩
  obtain ⟨f0, f1, f2, f3, f4, f5⟩ := f
  exact ⟨.ref Da, H', I'.turned (t' := s'.toks) (fun ba ob hb eq0 => (sb.2 ba hb).trans eq0) f0 f1 f3 f4 f5, rfl, q⟩
end
end VS
set_option Elab.async false
set_option linter.all false
set_option maxRecDepth 100000
namespace VS
open PySem PySem.Spec PyProof.Rows L2
variable {X : Cx} {W : WX} {P : List Nat}

theorem SI.newD {H : Hp} {L : List Ent} {p : Addr} (h : SI H L) (hp : H p = none) : SI (upd H p (.dT [])) ((.dct true [] [], some (.ref p)) :: L) := by
  obtain ⟨G, F, r, nd, gn, l⟩ := h
  have dm := RepL.dom _ _ r
  refine ⟨G, p :: F, ⟨[p], F, rfl, ?_, RepL.mono (fun _ _ z => z) _ F r fun a ha => upd_ne fun z => dm a ha (by rw [z]; exact hp)⟩, List.nodup_cons.mpr ⟨fun z => dm p z hp, nd⟩, ?_, fun a o e => le_upd hp a o (l a o e)⟩
  · unfold Rep
    exact ⟨p, [], [], rfl, by unfold Reps; exact ⟨rfl, rfl⟩, rfl, upd_same, rfl⟩
  · intro a ha
    rcases List.mem_cons.mp ha with rfl | ha
    · cases e' : G a with
      | none => rfl
      | some o => have := l a o e'; rw [hp] at this; cases this
    · exact gn a ha
theorem Pk.dct {H : Hp} {own : Bool} {ks : List (List L2.Key)} {ds : List D} {v : V} (h : Pk H (.dct own ks ds) v) : ∃ a vs, v = .ref a ∧ H a = some (.dT (ks.zip vs)) ∧ PkL H ds vs ∧ ks.length = ds.length := by
  obtain ⟨G, F, r, l⟩ := h
  unfold Rep at r
  obtain ⟨a, vs, F1, e, r, n, lo⟩ := r
  exact ⟨a, vs, Option.some.inj e, lo.rd l, r.pkl l, n⟩
theorem putK_new {k : List L2.Key} {v : V} {ks : List (List L2.Key)} {vs : List V} (h : k ∉ ks) (l : ks.length = vs.length) : putK (ks.zip vs) k v = (ks ++ [k]).zip (vs ++ [v]) := by
  unfold putK
  have : ((ks.zip vs).any fun kv => decide (kv.1 = k)) = false := by
    rw [List.any_eq_false]
    intro x hx
    have : x.1 ∈ ks := (List.of_mem_zip hx).1
    simp only [decide_eq_true_eq]
    intro z
    rw [z] at this
    exact h this
  rw [this, List.zip_append l]
  rfl
theorem SI.addK {H : Hp} {ks : List (List L2.Key)} {ds : List D} {d : D} {v : V} {a : Addr} {k : List L2.Key} {kvs : List (List L2.Key × V)} {L : List Ent} (h : SI H ((d, some v) :: (.dct true ks ds, some (.ref a)) :: L)) (ha : H a = some (.dT kvs)) (hf : k ∉ ks) :
    SI (upd H a (.dT (putK kvs k v))) ((.dct true (ks ++ [k]) (ds ++ [d]), some (.ref a)) :: L) := by
  obtain ⟨G, F, ⟨F0, F9, e0, r0, F1, F2, ef, r1, r2⟩, nd, gn, l⟩ := h
  unfold Rep at r1
  obtain ⟨b, ws, F3, eb, r3, hn, lo⟩ := r1
  cases eb
  obtain ⟨hb, ef1⟩ := lo
  rw [ha] at hb
  cases hb
  obtain ⟨r4, el⟩ := RepL.of_reps r3
  subst ef1
  subst ef
  subst e0
  have nd0 := List.nodup_append.mp nd
  have nd1 : (a :: (F3 ++ F2)).Nodup := nd0.2.1
  have nd2 := List.nodup_cons.mp nd1
  have na0 : a ∉ F0 := fun z => nd0.2.2 a z a (by show a ∈ a :: (F3 ++ F2); exact List.mem_cons_self) rfl
  have na3 : a ∉ F3 := fun z => nd2.1 (List.mem_append_left _ z)
  have na2 : a ∉ F2 := fun z => nd2.1 (List.mem_append_right _ z)
  have cg : ∀ F : List Addr, a ∉ F → ∀ x ∈ F, upd H a (.dT (putK (ks.zip ws) k v)) x = H x := fun F hF x hx => upd_ne fun z => hF (by rw [← z]; exact hx)
  have r5 : RepL G (upd H a (.dT (putK (ks.zip ws) k v))) (ds.zip (ws.map some)) F3 := RepL.mono (fun _ _ z => z) _ _ r4 (cg _ na3)
  have r6 := RepL.mono (fun _ _ z => z) _ _ r2 (cg _ na2)
  have r7 := Rep.mono (fun _ _ z => z) _ _ _ r0 (cg _ na0)
  have pm : (F0 ++ (a :: F3 ++ F2)).Perm ((a :: (F3 ++ F0)) ++ F2) := by
    show (F0 ++ (a :: (F3 ++ F2))).Perm (a :: ((F3 ++ F0) ++ F2))
    refine List.perm_middle.trans (List.Perm.cons _ ?_)
    rw [← List.append_assoc]
    exact List.perm_append_comm.append_right _
  refine ⟨G, (a :: (F3 ++ F0)) ++ F2, ⟨a :: (F3 ++ F0), F2, rfl, ?_, r6⟩, pm.nodup_iff.mp nd, fun x hx => gn x (pm.mem_iff.mpr hx), fun x o ex => ?_⟩
  · unfold Rep
    refine ⟨a, ws ++ [v], F3 ++ F0, rfl, Reps.of_repl ?_ (by simp [el]), by simp [hn], ?_, rfl⟩
    · rw [List.map_append, List.zip_append (by simpa using el)]
      exact RepL.append.mpr ⟨F3, F0, rfl, r5, F0, [], by simp, r7, rfl⟩
    · rw [upd_same, putK_new hf (hn.trans el)]
  · have cx : x ≠ a := fun z => by
      have := gn a (by show a ∈ F0 ++ (a :: F3 ++ F2); simp)
      rw [z, this] at ex; cases ex
    rw [upd_ne cx]; exact l x o ex
/-- a pair (of ints, texts) as a key -/
def keyV : D → Option L2.Key
  | .atm (.int i) => some (.inl i)
  | .atm (.str x) => some (.inr x)
  | _ => none
def keysV : List D → Option (List L2.Key)
  | [] => some []
  | d :: ds => match keyV d, keysV ds with
    | some k, some ks => some (k :: ks)
    | _, _ => none
def keyD : D → Option (List L2.Key)
  | .tup ds => keysV ds
  | _ => none
theorem keysV_ok {H : Hp} : ∀ {ds : List D} {vs : List V} {ks : List L2.Key}, keysV ds = some ks → PkL H ds vs → vs = ks.map kV
  | [], vs, ks, h, p => by
    cases h
    have := p.1
    cases vs with
    | nil => rfl
    | cons _ _ => cases this
  | d :: ds, vs, ks, h, p => by
    unfold keysV at h
    split at h
    · rename_i k ks' h1 h2
      cases h
      cases vs with
      | nil => have := p.1; cases this
      | cons v vs =>
        have ih := keysV_ok h2 (vs := vs) ⟨by have := p.1; simpa using this, fun i d' e => by
          obtain ⟨w, e1, e2⟩ := p.2 (i + 1) d' (by simpa using e)
          exact ⟨w, by simpa using e1, e2⟩⟩
        obtain ⟨w, e1, pk⟩ := p.2 0 d rfl
        cases e1
        unfold keyV at h1
        split at h1
        · cases h1; rw [ih, pk.atm]; rfl
        · cases h1; rw [ih, pk.atm]; rfl
        · cases h1
    · cases h
theorem keyD_ok {H : Hp} {d : D} {v : V} {k : List L2.Key} (e : keyD d = some k) (p : Pk H d v) : ∃ b, v = .ref b ∧ H b = some (.tup (k.map kV)) := by
  unfold keyD at e
  split at e
  · obtain ⟨a, vs, ev, ha, pk⟩ := p.tup
    rw [keysV_ok e pk] at ha
    exact ⟨a, ev, ha⟩
  · cases e
def dcD (g : Gv) (tk tv : Ev) (vs : List Nat) : List D → List (List L2.Key) → List D → EnvD → M (List (List L2.Key) × List D)
  | [], ks, acc, e => .ok (ks, acc) e
  | d :: ds, ks, acc, e => match g d e with
    | none => .no
    | some e1 => (noEr (tk e1)).bind fun rk e2 => (noEr (tv e2)).bind fun rv e3 => match rk, rv with
      | .val kd, .val y => match keyD kd with
        | some k => if (ks.any fun z => decide (z = k)) || !decide (ks.length < 16777216) then .no else dcD g tk tv vs ds (ks ++ [k]) (acc ++ [y]) (wipeE e3 vs)
        | none => .no
      | _, _ => .no
def eDc (fi : Iv) (g : Gv) (tk tv : Ev) (vs : List Nat) : Ev := fun e => if e.length ≤ 64 then (fi e).bind fun ds e1 => (dcD g tk tv vs ds [] [] (wipeE e1 vs)).bind fun p e2 => .ok (.val (.dct true p.1 p.2)) e2 else .no
theorem eok_dc {wi : TI} {fi : Iv} {g : Gv} {tk tv : Ev} {vs : List Nat} (hi : IOk W wi fi) : EOk W (tDcT wi (tGs (nP vs) g) tYes (tE WF tk) (tE WF tv) vs) (eDc fi g tk tv vs) := by
  intro env σ K H Q s h
  unfold eDc at h
  split at h
  case isFalse => exact h.elim
  rename_i hlen
  refine hi env σ K H _ s (MPost.mono (MPost.bind0 h) fun ds e1 h1 J H1 K' s1 js Da hDa => ?_)
  have h64 : σ.length ≤ 64 := by rw [← s.len]; exact hlen
  refine ⟨fun i m H' => m = ds.length - i ∧ i ≤ ds.length ∧ ∃ e ks acc, (∃ e0, e = wipeE e0 vs) ∧ Stt H' (K' ++ ((.dct true ks acc, some (.ref Da)) :: K)) e (L2.wipe σ vs) ∧
      LcPost W K σ Q ((dcD g tk tv vs (ds.drop i) ks acc e).bind fun p e2 => .ok (R.val (.dct true p.1 p.2)) e2), ⟨ds.length, by simp, Nat.zero_le _, wipeE e1 vs, [], [], ⟨e1, rfl⟩, ?_, by simpa using h1⟩, ?_⟩
  · have s2 := s1.wipe vs
    refine ⟨s2.len, ?_⟩
    have s3 : SI (upd H1 Da (.dT [])) ((.dct true [] [], some (.ref Da)) :: ((K' ++ K) ++ (wipeE e1 vs).zip (L2.wipe σ vs))) := SI.newD s2.si hDa
    refine s3.perm ?_
    rw [List.append_assoc, List.append_assoc]
    exact List.perm_middle.symm
  · rintro i m H2 ⟨rfl, hi', e, ks, acc, ⟨e0, rfl⟩, s2, q⟩
    have s2' : SI H2 (K' ++ (((.dct true ks acc, some (.ref Da)) :: K) ++ (wipeE e0 vs).zip (L2.wipe σ vs))) := by have := s2.si; rwa [List.append_assoc] at this
    by_cases c : i < ds.length
    · refine .inr ?_
      have hd : ds[i]? = some ds[i] := List.getElem?_eq_getElem c
      obtain ⟨go, yl⟩ := (js i H2 _ s2').2 _ hd
      refine ⟨go, fun H' => i + 1 ≤ ds.length ∧ ∃ e ks acc, (∃ e0, e = wipeE e0 vs) ∧ Stt H' (K' ++ ((.dct true ks acc, some (.ref Da)) :: K)) e (L2.wipe σ vs) ∧
        LcPost W K σ Q ((dcD g tk tv vs (ds.drop (i + 1)) ks acc e).bind fun p e2 => .ok (R.val (.dct true p.1 p.2)) e2), fun H' ⟨a1, a2⟩ => ⟨ds.length - (i + 1), by omega, rfl, a1, a2⟩, fun x H3 y => ?_⟩
      have s3 := yl x H3 y
      rw [List.drop_eq_getElem_cons c] at q
      unfold dcD at q
      cases ge : g ds[i] (wipeE e0 vs) with
      | none => rw [ge] at q; exact q.elim
      | some e3 =>
        rw [ge] at q
        simp only at q
        refine ⟨wipeE e0 vs, K' ++ ((.dct true ks acc, some (.ref Da)) :: K), ds[i], e3, ⟨s2.len, by simpa using s3⟩, ge, fun σ4 H4 pn4 s4 => ⟨wipe_same h64 pn4, ?_⟩⟩
        have ws := wipe_same h64 pn4
        unfold tYes
        simp only [if_true]
        refine ⟨e3, K' ++ ((.dct true ks acc, some (.ref Da)) :: K), s4, ?_⟩
        cases te1 : tk e3 with
        | no => rw [te1] at q; exact q.elim
        | er x e5 => rw [te1] at q; exact q.elim
        | ok rk e5 =>
          rw [te1] at q
          simp only [noEr_ok, bind_ok] at q
          intro vk H5 s5 o5
          refine ⟨e5, rk.ent vk ++ (K' ++ ((.dct true ks acc, some (.ref Da)) :: K)), s5, ?_⟩
          cases te2 : tv e5 with
          | no => rw [te2] at q; exact q.elim
          | er x e6 => rw [te2] at q; exact q.elim
          | ok rv e6 =>
            rw [te2] at q
            simp only [noEr_ok, bind_ok] at q
            intro v H6 s6 o6
            split at q
            case h_2 => exact q.elim
            rename_i kd yd
            split at q
            case h_2 => exact q.elim
            rename_i k hk
            split at q
            case isTrue => exact q.elim
            rename_i hc
            simp only [Bool.or_eq_true, Bool.not_eq_true', decide_eq_false_iff_not, not_or, decide_eq_true_eq] at hc
            obtain ⟨hc1, hc2⟩ := hc
            have hc1' : k ∉ ks := fun z => hc1 (List.any_eq_true.mpr ⟨k, z, by simp⟩)
            have s7 : SI H6 ((yd, some v) :: (.dct true ks acc, some (.ref Da)) :: ((kd, some vk) :: (K' ++ (K ++ e6.zip σ4)))) := s6.si.perm (by
              show (((yd, some v) :: (kd, some vk) :: (K' ++ ((.dct true ks acc, some (.ref Da)) :: K))) ++ e6.zip σ4).Perm _
              rw [List.cons_append, List.cons_append, List.append_assoc, List.cons_append]
              exact List.Perm.cons _ ((List.perm_middle.cons _).trans (List.Perm.swap _ _ _)))
            obtain ⟨kb, ekb, hkb⟩ := keyD_ok hk (s7.pkm (List.mem_cons_of_mem _ (List.mem_cons_of_mem _ List.mem_cons_self)))
            obtain ⟨b, wsv, ev, hh, pk, hn⟩ := (s7.drop).pk.dct
            cases ev
            refine ⟨_, k, kb, ⟨ekb, hkb⟩, hh, ?_, c, wipeE e6 vs, ks ++ [k], acc ++ [yd], ⟨e6, rfl⟩, ?_, q⟩
            · rw [List.length_zip, sizeLine_eq]; omega
            · have s8 := s7.addK (k := k) hh hc1'
              have s9 : Stt (upd H6 Da (.dT (putK (ks.zip wsv) k v))) (K' ++ ((.dct true (ks ++ [k]) (acc ++ [yd]), some (.ref Da)) :: K)) e6 σ4 := ⟨s6.len, (SI.mid (A := [(D.dct true (ks ++ [k]) (acc ++ [yd]), some (V.ref Da))]) (B := [(kd, some vk)]) (L := K' ++ (K ++ e6.zip σ4)) s8).perm (by
                rw [List.append_assoc]
                show ((D.dct true (ks ++ [k]) (acc ++ [yd]), some (V.ref Da)) :: (K' ++ (K ++ e6.zip σ4))).Perm _
                exact List.perm_middle.symm)⟩
              have := s9.wipe vs
              rwa [ws] at this
    · refine .inl ⟨(js i H2 _ s2').1 (by omega), ?_⟩
      rw [List.drop_eq_nil_of_le (by omega)] at q
      have s3 : Stt H2 ((.dct true ks acc, some (.ref Da)) :: K) (wipeE e0 vs) (L2.wipe σ vs) := s2.drops
      exact q (.ref Da) H2 s3.unwipe trivial
theorem ej_dc {kx vx tg iter : Expr} {scope : Scope} {own : List (Str × Nat)} {pos : Pos} {fi : Iv} {g : Gv} {tk tv : Ev} {vs : List Nat} (hu : X.A.units + 65 < cLine) (hc : X.calm = true) (hN : X.N.Nodup) (hi : IJ X W tg iter fi) (ok : BlkOk X.N X.env.scope scope own) (hv : own.map (·.2) = vs)
    (hg : ∀ (s : Shared) (H : Hp) (C : Addr) (cl : List (Str × Addr)) (fp : List Addr), GJ (X.blk s H scope (compEnvC scope cl C X.env) fp) (nP vs) tg g)
    (hk : ∀ (s : Shared) (H : Hp) (C : Addr) (cl : List (Str × Addr)) (fp : List Addr), EJ (X.blk s H scope (compEnvC scope cl C X.env) fp) WF kx tk)
    (he : ∀ (s : Shared) (H : Hp) (C : Addr) (cl : List (Str × Addr)) (fp : List Addr), EJ (X.blk s H scope (compEnvC scope cl C X.env) fp) WF vx tv)
    (hs : ∀ x, foldedSetIterable iter X.env x = pure x := by intro _; rfl) : EJ X W (.DictComp kx vx [⟨tg, iter, [], 0⟩] scope pos) (eDc fi g tk tv vs) := by
  obtain ⟨wi, pi, ki⟩ := hi
  subst hv
  exact ⟨_, peT_dc hu hc hN pi ok (fun s H C cl fp => (hg s H C cl fp).pg) (fun s H C cl fp => pts_nil) (fun s H C cl fp => (hk s H C cl fp).pe) (fun s H C cl fp => (he s H C cl fp).pe) hs, eok_dc ki⟩
end VS
set_option Elab.async false
set_option linter.all false
set_option maxRecDepth 100000
set_option maxHeartbeats 2000000
namespace VS
open PySem PySem.Spec PySem.W PySem.Calls PyProof.Rows PySem.HandSPX L2

/-! ### an own exception: super().__init__('..'); self.f = f -/
def sxArgs (pn : Str) (p1 p2 : Pos) : Arguments := { posonlyargs := [], args := [{ arg := "self", annotation := none, pos := p1 }, { arg := pn, annotation := none, pos := p2 }], vararg := none, kwonlyargs := [], kw_defaults := [], kwarg := none, defaults := [] }
structure ScX (sc : Scope) (pn : Str) : Prop where
  kind : sc.kind = .function
  co : sc.isCoroutine = false
  gen : sc.isGenerator = false
  self : sc.names.lookup ("self" : Str) = some .local
  par : sc.names.lookup pn = some .local
  cls : sc.names.lookup ("__class__" : Str) = some .free
  sup : sc.names.lookup ("super" : Str) = some .globalImplicit
  nocell : ∀ y ∈ sc.names, y.2 ≠ .cell
def sxHead (msg : Str) (k0 : Nat) (p0 p1 p2 p3 p4 p5 : Pos) : Stmt := .Expr (.Call (.Attribute (.Call (.Name "super" p0) [] [] p1) "__init__" p2) [.Constant (.str msg) k0 p3] [] p4) p5
/-- what the written part says of the class at C and of its __init__ -/
structure SxT (prog : Program) (K : Frag) (C fI cc cda : Addr) (fd : FuncData) (pn fld : Str) : Prop where
  ox : L2.OexC K C
  ga : findIn K (.ref C) "__getattribute__" = some (some (.builtin "BaseException.__getattribute__"))
  gg : findIn K (.ref C) "__getattr__" = some none
  noN : findIn K (.ref C) fld = some none
  iC : findIn K (.ref C) "__init__" = some (some (.ref fI))
  tI : typeIn K (.ref fI) = some (.type "function")
  lk : ∃ oc od osl, K.lookup fI = some ⟨oc, od, .func fd, osl⟩
  cd : codeIn K fd.code fd.qualname = true
  code : fd.code = .ref cda
  lkc : ∃ ccl cdd vs ccs file tf, K.lookup cda = some ⟨ccl, cdd, .fields vs, ccs⟩ ∧ vs[2]? = some (.str file tf) ∧ ((prog.main.file : Str) == file) = true
  clo : fd.closure = [(("__class__" : Str), cc)]
  cell : ∃ cl cld csl, K.lookup cc = some ⟨cl, cld, .cell (some (.ref C)), csl⟩
  sup : ks_superIn K C C "__init__" = some (some (.builtin "ValueError.__init__"))
  subV : subIn K (.ref C) (.type "ValueError") = some true
  mroC : mroIn K C (.ref C) = some true
  opq : nsIn K cStatics "thirdparty.any" = some none
  glb : fd.globals = mainGlobals
  blt : fd.builtins = builtinsNs
  top : (prog.main.scope.names.lookup ("super" : Str)).isSome = false
section
variable {prog : Program} {w : World} {A : Around} {E : Value → Shared → Prop} {R : Result → Shared → Prop} {s : Shared} {K : Frag} {C fI cc cda : Addr} {fd : FuncData} {pn fld : Str}
theorem sx_bw {h : Heap} {g : Array GenState} {d : Drawn} {t : Nat} {os : OsState} {u e t0 : Addr} {rest : List Value} {Q : Value → Shared → Prop} {nm q : Str} {N : Addr} {bs bm : List Value} {hdct : Bool} {sn : List Str} {sub : List Value} {ab : Bool} {col : Option Bool} {dd : Option Addr} {k0 k1 k2 k3 k5 : Option Value}
    (hC : h.get? C = some (excClassObj nm q C N bs bm hdct sn sub ab col dd k0 k1 k2 k3 k5 "ValueError.__new__")) (he : h.get? e = some (excO C t0)) (hu : h.get? u = some (kxs_mw "ValueError.__init__" e)) (hrest : rest.length ≤ sizeLine)
    (hq : ∀ h' t1, (∀ b o, b ≠ e → h.get? b = some o → h'.get? b = some o) → h'.get? e = some (excO C t1) → Q .none ⟨h', g, d, t, os⟩) :
    wpAny (model prog w) A (call (.ref u) rest) Q E ⟨h, g, d, t, os⟩ := by
  refine wpAny_call (codeAny_of_tree ?_)
  show wpAny _ A.in1 (callAny (.ref u) ⟨rest, []⟩) _ _ _
  simp only [callAny]
  refine wpAny_bind (wpAny_load hu ?_)
  simp only [kxs_mw, show (Value.type "method-wrapper" == Value.type "method" || Value.type "method-wrapper" == Value.type "builtin_function_or_method" || Value.type "method-wrapper" == Value.type "method-wrapper") = true by decide, if_true]
  refine KFB.if_so (by decide) ?_
  refine wpAny_bind (check_bound_init PySem.F.excBase_ValueError.toExcCallFacts hC he rfl ?_)
  refine wpAny_bind (wpAny_pure (wpAny_pure ?_))
  refine ⟨plainId_quiet PySem.F.excBase_ValueError.init.plain _, codeAny_builtin PySem.F.excBase_ValueError.initEntry ?_⟩
  exact exc_init_tree (cls := .ref C) (t0 := t0) (dv := none) (c2 := .none) (c3 := .none) (b4 := .bool false) he hrest fun h' k e' _ => hq h' _ k e'
/-- what __init__ leaves -/
structure SxEnd (n : Nat) (h h' : Heap) (x C dx : Addr) (fld : Str) (v : Value) : Prop where
  keep : ∀ b o, b ≠ x → h.get? b = some o → h'.get? b = some o
  obj : ∃ t1 : Addr, h'.get? x = some { cls := .ref C, dict := some dx, data := .fields #[.ref t1, .none, .none, .none, .bool false, .none] }
  dbig : n ≤ dx
  dne : dx ≠ x
  ns : h'.Ns1 dx (fun y => if y = fld then some v else none)
theorem kept_butX {K : Frag} {h h' : Heap} {x : Addr} (X : K.In h) (hx : K.lookup x = none) (k : ∀ b o, b ≠ x → h.get? b = some o → h'.get? b = some o) : K.In h' := fun a o e =>
  k a o (fun z => by rw [z, hx] at e; cases e) (X a o e)
theorem sx_init {msg : Str} {kk : Nat} {rest : List Stmt} {p0 p1 p2 p3 p4 p5 q1 q2 : Pos} {nm qual : Str} {dV kV doc pm cdv ct : Value} {an : Option Addr} {mg mb : Str → Option Value} {sc : Scope} (S : ScX sc pn) (T : SxT prog K C fI cc cda fd pn fld)
    (hfd : fd = fnX nm qual (sxArgs pn q1 q2) (sxHead msg kk p0 p1 p2 p3 p4 p5 :: rest) sc [(("__class__" : Str), cc)] dV kV doc pm an cdv ct) {pl : Sem Bool} (hev : ∀ env : Env, eval (.Call (.Attribute (.Call (.Name "super" p0) [] [] p1) "__init__" p2) [.Constant (.str msg) kk p3] [] p4) env = (do
      let ov ← attributeBase (.Call (.Name "super" p0) [] [] p1) "__init__" env (eval (.Call (.Name "super" p0) [] [] p1) env)
      standAt p2.atName
      let (f, first) ← holding [ov] (getMethod ov "__init__" pl)
      callWith p4 f first (backTo p4 (starEach [.Constant (.str msg) kk p3] env)) []))
    (hbind : ∀ a b : Value, bindArgs fd ⟨[a, b], []⟩ = pure [(("self" : Str), a), (pn, b)]) (hpn : pn ≠ "self" ∧ pn ≠ "__class__" ∧ pn ≠ "super" ∧ pn ≠ "__debug__")
    {x t0 : Addr} {v v' : Value} (X : K.In s.heap) (hlim : s.heap.NoLimit) (G : s.heap.Ns mainGlobals mg) (hmg : mg "super" = none) (B : s.heap.Ns builtinsNs mb) (hmb : mb "super" = some (.type "super"))
    (hx : s.heap.get? x = some (excO C t0)) (hnx : K.lookup x = none) (hroom : A.depth < recursionLimit)
    (hrest : ∀ (h₂ : Heap) (g : Array GenState) (d : Drawn) (t : Nat) (os : OsState) (t1 L : Addr) (Q : Flow → Shared → Prop) (E : Value → Shared → Prop), K.In h₂ → h₂.Ns mainGlobals mg → h₂.Ns builtinsNs mb → s.heap.objs.size ≤ L → (∀ b o, b ≠ x → s.heap.get? b = some o → h₂.get? b = some o) → h₂.get? x = some (excO C t1) → x ≠ L →
      h₂.Ns L (fun y => [(("self" : Str), Value.ref x), (pn, v)].reverse.lookup y) →
      (∀ h' tk dx, SxEnd L h₂ h' x C dx fld v' → Q .next ⟨h', g, d, tk, os⟩) → wpAny (model prog w) (A.deeper (callEnv fd L fI)) (execs rest (callEnv fd L fI)) Q E ⟨h₂, g, d, t, os⟩)
    (hq : ∀ h' tk dx, SxEnd s.heap.objs.size s.heap h' x C dx fld v' → R (.ok (.ret .none)) { s with heap := h', toks := tk }) :
    codeAny (model prog w) A (.call (.ref fI) ⟨[.ref x, v], []⟩) R s := by
  obtain ⟨oc, od, osl, ho⟩ := T.lk
  obtain ⟨nmc, q, N, bs, bm, sn, sub, ab, col, dd, k0, k1, k2, k3, k5, hC, hbm⟩ := T.ox.cls
  obtain ⟨ccl, cdd, vs, ccs, file, tf, hcode, hvs, hfile⟩ := T.lkc
  obtain ⟨cl, cld, csl, hcell⟩ := T.cell
  have hcl : clsIn K C = some { name := nmc, bases := bs, mro := .ref C :: bm, ns := N, qualname := q, hasDict := true, slotNames := sn, subclasses := sub, abstract := ab, collection := col, hasDel := false } := by unfold clsIn; rw [hC] <;> rfl
  have hcdx := T.cd
  have hcod := T.code
  subst hfd
  obtain ⟨hh, g, d, tok, os⟩ := s
  refine ks_codeAny_call_defAt (binds := [(("self" : Str), Value.ref x), (pn, v)]) hroom (X _ _ ho) rfl hlim (codeRec_of X hcdx) rfl (BindsTo.of_eq (hbind _ _)) ?_ ?_ (fun h₁ hns hk₁ => ?_) S.co S.gen S.kind
  · exact S.nocell
  · intro y hy
    simp at hy
    rcases hy with rfl | rfl
    · exact S.self
    · exact S.par
  have X₁ : K.In h₁ := X.keeps hk₁
  have hx₁ := hk₁ _ _ hx
  have hcod' : cdv = .ref cda := hcod
  subst hcod'
  have hL : ∀ b o, hh.get? b = some o → b ≠ hh.objs.size := fun b o e => Nat.ne_of_lt (Heap.lt_size e)
  obtain ⟨oD, hD1, hD2⟩ : ∃ oD, h₁.get? C = some oD ∧ oD.data = .cls { name := nmc, bases := bs, mro := .ref C :: bm, ns := N, qualname := q, hasDict := true, slotNames := sn, subclasses := sub, abstract := ab, collection := col, hasDel := false } := ⟨_, X₁ _ _ hC, rfl⟩
  have I : InstAt h₁ x (excO C t0) C none := ⟨hx₁, rfl, rfl, trivial⟩
  have hxC : x ≠ C := ks_ne X₁ I hcl
  have kf : ∀ y, (callEnv (fnX nm qual (sxArgs pn q1 q2) (sxHead msg kk p0 p1 p2 p3 p4 p5 :: rest) sc [(("__class__" : Str), cc)] dV kV doc pm an (.ref cda) ct) hh.objs.size fI).kindOf y = sc.names.lookup y := fun y => rfl
  have ks : sc.names.lookup ("super" : Str) = some .globalImplicit := S.sup
  have kc : sc.names.lookup ("__class__" : Str) = some .free := S.cls
  have hint : ∀ env : Env, env.scope = sc → interactive env = false := fun env e => by
    have : env.scope.kind = .function := by rw [e]; exact S.kind
    simp [interactive, this]
  refine ks_wpAt_execs_cons (ks_wpAt_Expr_any (ks_wpAt_MethodCall ?_ (hev _)) (hint _ rfl))
  refine ks_wpAt_super_base (f := fI) (cc := cda) ((kf _).trans ks) ((kf _).trans kc) (by decide) rfl (X₁ _ _ ho) rfl rfl rfl (X₁ _ _ hcode) rfl hvs hfile T.top ?_
  refine ks_loadName_global S.kind ((kf _).trans ks) (loadGlobal_builtin (G.keeps hk₁) hmg (B.keeps hk₁) hmb ⟨rfl, ?_⟩)
  refine wpAny_loadName_free S.kind ((kf _).trans kc) rfl ⟨_, X₁ _ _ hcell, rfl⟩ ?_
  refine wpAny_loadName_local S.kind S.self hns (v := .ref x) (by
    have c1 : (("self" : Str) == pn) = false := by simpa using Ne.symm hpn.1
    simp [List.lookup, c1]) ?_
  refine ks_wpAny_isType_cls hD1 hD2 ⟨rfl, ?_⟩
  refine ks_wpAny_call_super hD1 hD2 hx₁ rfl (fun c e => by cases e) (looks_mroIn X₁ T.mroC) fun h2 e2 k2 => ?_
  have X₂ : K.In h2 := X₁.keeps k2
  have I2 : InstAt h2 x (excO C t0) C none := ⟨k2 _ _ hx₁, rfl, rfl, trivial⟩
  have hsup : alongIn K "__init__" (((.ref C :: bm : List Value).dropWhile (· != .ref C)).drop 1) = some (some (.builtin "ValueError.__init__")) := by
    have := T.sup
    unfold ks_superIn at this
    rw [hcl] at this
    exact this
  refine kxs_getMethod kxs_ValueError e2 (looks_opaque X₂ T.opq) (l₀ := .ref C :: bm) (fun A Q E s k q => wpAny_bind ((looks_clsIn X₂ hcl) A _ E s k (wpAny_pure q))) rfl X₂ hsup (I2.type.andThen (looks_subIn X₂ T.subV)) hxC (by decide) ?_
  have hu : (h2.push (kxs_mw "ValueError.__init__" x)).get? h2.objs.size = some (kxs_mw "ValueError.__init__" x) := Heap.get?_push_at rfl rfl
  have k3 : ∀ b o, h2.get? b = some o → (h2.push (kxs_mw "ValueError.__init__" x)).get? b = some o := fun b o e => Heap.get?_push_of_some _ e
  show wpAny _ _ (callWith p4 (.ref h2.objs.size) [] (backTo p4 (starEach [.Constant (.str msg) kk p3] _)) []) _ _ _
  refine kxs_callWith (i := "ValueError.__init__") (x := x) rfl ?_
  refine evalArgs_plain (rest := []) (spliced_cons (Constant_str (k := kk) (pos := p3) (spliced_nil ⟨hu, ?_⟩)))
  show wpAny _ _ (call (.ref h2.objs.size) [Value.str msg _]) _ _ _
  have X₃ : K.In (h2.push (kxs_mw "ValueError.__init__" x)) := X₂.keeps k3
  refine sx_bw (X₃ _ _ hC) (k3 _ _ (k2 _ _ hx₁)) hu (by rw [sizeLine_eq]; exact (by decide : 1 ≤ 16777216)) fun h4 t1 k4 hx4 => ?_
  have k14 : ∀ b o, b ≠ x → h₁.get? b = some o → h4.get? b = some o := fun b o hb e => k4 b o hb (k3 _ _ (k2 _ _ e))
  have kall : ∀ b o, b ≠ x → hh.get? b = some o → h4.get? b = some o := fun b o hb e => k14 b o hb (hk₁ _ _ e)
  have gx : ∀ (a : Addr) (m : Str → Option Value), hh.Ns a m → h4.Ns a m := fun a m hn => by
    obtain ⟨o, es, ep, ho', r⟩ := hn
    refine ⟨o, es, ep, kall _ _ (fun z => ?_) ho', r⟩
    rw [z, hx] at ho'
    cases ho'
    exact absurd r.1 (by intro z; cases z)
  have hxL : x ≠ hh.objs.size := hL _ _ hx
  have hns4 : h4.Ns hh.objs.size (fun y => [(("self" : Str), Value.ref x), (pn, v)].reverse.lookup y) := by
    obtain ⟨o, es, ep, ho', r⟩ := hns
    exact ⟨o, es, ep, k14 _ _ (fun z => hxL z.symm) ho', r⟩
  refine wpAt_of_wpAny (hrest h4 g d _ os t1 hh.objs.size _ _ (kept_butX X₁ hnx k14) (gx _ _ G) (gx _ _ B) (Nat.le_refl _) kall hx4 hxL hns4 fun h' tk dx e => ?_)
  exact hq h' tk dx ⟨fun b o hb z => e.keep b o hb (kall b o hb z), e.obj, e.dbig, e.dne, e.ns⟩
end
end VS
set_option Elab.async false
set_option linter.all false
set_option maxRecDepth 100000
set_option maxHeartbeats 2000000
namespace VS
open PySem PySem.Spec PySem.W PySem.Calls PyProof.Rows PySem.HandSPX L2
section
variable {prog : Program} {w : World} {A : Around} {E : Value → Shared → Prop} {R : Result → Shared → Prop} {s : Shared} {K : Frag} {C fI cc cda : Addr} {fd : FuncData} {pn fld : Str}
theorem ldN {M : Model} {env : Env} {m : Str → Option Value} {x : Str} {pos : Pos} {v : Value} {Q : Value → Shared → Prop} (hk : env.scope.kind = .function) (hn : s.heap.Ns env.locals m) (hl : env.kindOf x = some .local) (hv : m x = some v) (hd : (x == ("__debug__" : Str)) = false) (h : Q v s) : wpAny M A (eval (.Name x pos) env) Q E s :=
  wpAny_Name (wpAny_loadName_local hk hl hn hv h) hd
/-- self.f = e behind it -/
theorem sx_store {ve : Expr} {a1 a2 a4 : Pos} {env : Env} {h₂ : Heap} {g : Array GenState} {d : Drawn} {t : Nat} {os : OsState} {x t1 : Addr} {v' : Value} {Q : Flow → Shared → Prop} {m : Str → Option Value} (T : SxT prog K C fI cc cda fd pn fld)
    (hk : env.scope.kind = .function) (X₂ : K.In h₂) (hx : h₂.get? x = some (excO C t1)) (hn : h₂.Ns env.locals m) (hl : env.kindOf "self" = some .local) (hm : m "self" = some (.ref x))
    (hve : wpAny (model prog w) A (eval ve env) (fun u s2 => ∃ h' tk', s2 = ⟨h', g, d, tk', os⟩ ∧ u = v' ∧ (∀ b o, h₂.get? b = some o → h'.get? b = some o)) E ⟨h₂, g, d, t, os⟩)
    (hq : ∀ h' tk dx, SxEnd env.locals h₂ h' x C dx fld v' → Q .next ⟨h', g, d, tk, os⟩) (hs : swapsWith ve (some (.Attribute (.Name "self" a1) fld a2)) a4.line env = pure false) :
    wpAny (model prog w) A (execs [.Assign [.Attribute (.Name "self" a1) fld a2] ve a4] env) Q E ⟨h₂, g, d, t, os⟩ := by
  obtain ⟨nmc, q, N, bs, bm, sn, sub, ab, col, dd, k0, k1, k2, k3, k5, hC, hbm⟩ := T.ox.cls
  have hcl : clsIn K C = some { name := nmc, bases := bs, mro := .ref C :: bm, ns := N, qualname := q, hasDict := true, slotNames := sn, subclasses := sub, abstract := ab, collection := col, hasDel := false } := by unfold clsIn; rw [hC] <;> rfl
  refine wpAny_execs_cons (plainObj_wpAny_Assign_Attribute (wpAny_mono hve (fun u s2 ⟨h', tk', e1, e2, kk⟩ => ?_) fun _ _ z => z) hs)
  subst e1; subst e2
  have X₃ : K.In h' := X₂.keeps kk
  refine ldN hk (hn.keeps kk) hl hm (by decide) ?_
  refine set_plain X₃ (ox := excO C t1) (od := none) ⟨kk _ _ hx, rfl, rfl, trivial⟩ T.ox.sa ?_
  refine exc_osa X₃ (kk _ _ hx) hcl (show refsVE (.ref C :: bm) = true from hbm) rfl T.noN (fun h₃ tk₃ dx k₃ dn dne hx₃ hn₃ => ?_)
  show wpAny _ _ (execs _ _) _ _ _
  exact wpAny_execs_nil (hq h₃ tk₃ dx ⟨fun b o hb e => k₃ b o hb (kk b o e), ⟨t1, hx₃⟩, Nat.le_trans (Nat.le_of_lt (hn.keeps kk).lt) dn, dne, hn₃⟩)
end

/-- of what v such an exception may be made, by values -/
def SxMk (prog : Program) (w : World) (K : Frag) (mg : Str → Option Value) (C fI : Addr) (fld : Str) (ok : V → Prop) : Prop :=
  ∀ (A : Around) (R : Result → Shared → Prop) (s : Shared) (mb : Str → Option Value) (x t0 : Addr) (y : V) (v : Value), RelV y v → ok y → K.In s.heap → s.heap.NoLimit → s.heap.Ns mainGlobals mg → mg "super" = none → mg "isinstance" = none → mg "list" = none → mg "tuple" = none →
    s.heap.Ns builtinsNs mb → (∀ n : Str, n ≠ "__name__" → mb n = bootBuiltins n) →
    s.heap.get? x = some (excO C t0) → K.lookup x = none → A.depth + 8 < recursionLimit → A.units + 16 < cLine →
    (∀ h' tk dx, SxEnd s.heap.objs.size s.heap h' x C dx fld v → R (.ok (.ret .none)) { s with heap := h', toks := tk }) →
    codeAny (model prog w) A (.call (.ref fI) ⟨[.ref x, v], []⟩) R s
section
variable {prog : Program} {w : World} {K : Frag} {mg : Str → Option Value} {C fI cc cda : Addr} {fd : FuncData} {pn fld : Str}
/-- self.f = f -/
theorem sx_mk {msg : Str} {kk : Nat} {p0 p1 p2 p3 p4 p5 q1 q2 a1 a2 a3 a4 : Pos} {nm qual : Str} {dV kV doc pm cdv ct : Value} {an : Option Addr} {sc : Scope} (S : ScX sc pn) (T : SxT prog K C fI cc cda fd pn fld)
    (hfd : fd = fnX nm qual (sxArgs pn q1 q2) [sxHead msg kk p0 p1 p2 p3 p4 p5, .Assign [.Attribute (.Name "self" a1) fld a2] (.Name pn a3) a4] sc [(("__class__" : Str), cc)] dV kV doc pm an cdv ct) {pl : Sem Bool}
    (hev : ∀ env : Env, eval (.Call (.Attribute (.Call (.Name "super" p0) [] [] p1) "__init__" p2) [.Constant (.str msg) kk p3] [] p4) env = (do
      let ov ← attributeBase (.Call (.Name "super" p0) [] [] p1) "__init__" env (eval (.Call (.Name "super" p0) [] [] p1) env)
      standAt p2.atName
      let (f, first) ← holding [ov] (getMethod ov "__init__" pl)
      callWith p4 f first (backTo p4 (starEach [.Constant (.str msg) kk p3] env)) []))
    (hbind : ∀ a b : Value, bindArgs fd ⟨[a, b], []⟩ = pure [(("self" : Str), a), (pn, b)]) (hpn : pn ≠ "self" ∧ pn ≠ "__class__" ∧ pn ≠ "super" ∧ pn ≠ "__debug__")
    (hs : ∀ env : Env, swapsWith (.Name pn a3) (some (.Attribute (.Name "self" a1) fld a2)) a4.line env = pure false) : SxMk prog w K mg C fI fld (fun _ => True) := by
  intro A R s mb x t0 y v ry _ X hlim G hmg _ _ _ B hmb hx hnx hd hu hq
  refine sx_init S T hfd hev hbind hpn X hlim G hmg B ((hmb _ (by decide)).trans (by decide +kernel)) hx hnx (by omega) (fun h₂ g d t os t1 L Q E X₂ G₂ B₂ hL _ hx₂ hxL hn hq₂ => ?_) hq
  subst hfd
  have c1 : (pn == ("self" : Str)) = false := by simpa using hpn.1
  have c1' : (("self" : Str) == pn) = false := by simpa using Ne.symm hpn.1
  refine sx_store T S.kind X₂ hx₂ hn S.self (by simp [List.lookup, c1']) ?_ hq₂ (hs _)
  refine ldN S.kind hn S.par (by simp [List.lookup] : _ = some v) (by simpa using hpn.2.2.2) ⟨h₂, t, rfl, rfl, fun _ _ e => e⟩
end
end VS
set_option Elab.async false
set_option linter.all false
set_option maxRecDepth 100000
set_option maxHeartbeats 2000000
namespace VS
open PySem PySem.Spec PySem.W PySem.Calls PyProof.Rows PySem.HandSPX L2
theorem size_one (v : Value) : [v].length ≤ sizeLine := by
  rw [sizeLine_eq]
  exact (by decide : 1 ≤ 16777216)
theorem relO_one {fld : Str} {v : V} {v' : Value} (r : RelV v v') (f : Str) : RelO (List.lookup f [(fld, v)]) (if f = fld then some v' else none) := by
  by_cases hw : f = fld
  · subst hw
    rw [if_pos rfl]
    have q : List.lookup f [(f, v)] = some v := by simp [List.lookup]
    rw [q]
    exact r
  · rw [if_neg hw]
    have qw : (f == fld) = false := by simpa using hw
    have q2 : List.lookup f [(fld, v)] = none := by simp [List.lookup, qw]
    rw [q2]
    trivial
/-- C(e): the error's class, the dict that it has -/
def tMkX (C : Addr) (fld : Str) (ok : V → Prop) (ta : TA) : L2.St → Hp → XK → Prop := fun σ H Q => ta σ H fun vs H1 => ∃ v, vs = [v] ∧ ok v ∧ ∀ d, H1 d = none → Q (.ref C) (some d) (upd H1 d (.xd [(fld, v)]))
section
variable {X : Cx} {W : WX} {P : List Nat} {C fI cc cda : Addr} {fd : FuncData} {pn fld : Str} {ok : V → Prop}
theorem pmk_sx {x : Str} {a : Expr} {ta : TA} {p pos : Pos} {k : Nat} (T : SxT X.prog X.K C fI cc cda fd pn fld) (MK : SxMk X.prog X.w X.K X.mg C fI fld ok) (hr : Room k X.A) (hk : 3 ≤ k) (ha : PA X [a] ta) (hm : X.mg x = some (.ref C))
    (n1 : X.mg "super" = none) (n2 : X.mg "isinstance" = none) (n3 : X.mg "list" = none) (n4 : X.mg "tuple" = none) (hg : Gl X x) (hdb : (x == ("__debug__" : Str)) = false)
    (he : starEach (a :: []) X.env = (false, eval a X.env) :: starEach [] X.env) (hpl : (backTo pos (starEach [] X.env)).any (·.1) = false) :
    PMk X (.Call (.Name x p) [a] [] pos) (tMkX C fld ok ta) := by
  intro pins s σ H Q I h
  obtain ⟨nm, q, N, bs, bm, sn, sub, ab, col, dd, k0, k1, k2, k3, k5, hC, hbm⟩ := T.ox.cls
  refine wpAny_Call_Name_kw (ld_glob I hg hm ?_ hdb)
  refine PySem.W.callWith_K (h₀ := X.base) I.ok.mod.kin T.ox.kC (thn (ha.run pos pins s σ H _ I h) fun us s1 hh => ?_) he hpl
  obtain ⟨vs, H1, I1, r1, v, ev, hok, q1⟩ := hh
  subst ev
  refine ⟨I1.kIn, ?_⟩
  cases r1 with
  | cons rv rn =>
    rename_i v' us'
    cases rn
    show wpAny _ _ (call (.ref C) [v']) _ _ _
    have hlim := I1.nolimit
    obtain ⟨mb, hB, hmb⟩ := I1.ok.mod.blt
    obtain ⟨kk, rfl⟩ : ∃ kk, k = kk + 3 := ⟨k - 3, by omega⟩
    have hr1 : Room (kk + 2) (X.A.under (.builtin "type.__call__" ⟨.ref C :: [v'], []⟩)) := hr.make C [v'] []
    have bk0 := I1.bk
    obtain ⟨hp, g, dr, tk, os⟩ := s1
    have kpp : ∀ b o, hp.get? b = some o → ((hp.push (kdv_tup [v'])).push (excO C hp.objs.size)).get? b = some o := fun b o e => Heap.get?_push_of_some _ (Heap.get?_push_of_some _ e)
    have hget : ((hp.push (kdv_tup [v'])).push (excO C hp.objs.size)).get? (hp.objs.size + 1) = some (excO C hp.objs.size) := by heap_get
    have hnx : X.K.lookup (hp.objs.size + 1) = none := by
      cases e : X.K.lookup (hp.objs.size + 1) with
      | none => rfl
      | some o =>
        have z : hp.get? (hp.objs.size + 1) = some o := I1.kIn _ _ e
        exact absurd (Nat.lt_of_succ_lt (Heap.lt_size z)) (Nat.lt_irrefl _)
    refine wpAny_call (call_own PySem.F.excBase_ValueError (fun Y => refsVE_contains Y bm hbm) (I1.kIn _ _ hC) (looks_findIn I1.kIn T.iC) (fun self => bind_fn I1.kIn self T.tI) (size_one v') ?_)
    refine MK _ _ ⟨(hp.push (kdv_tup [v'])).push (excO C hp.objs.size), g, dr, tk, os⟩ mb _ _ v v' rv hok (I1.kIn.keeps kpp) (hlim.keeps kpp) (I1.ok.mod.glob.keeps fun b o e => kpp b o (bk0 b o e)) n1 n2 n3 n4 (hB.keeps fun b o e => kpp b o (bk0 b o e)) hmb hget hnx (by have := hr1.dp; omega) (by have := hr1.un; omega) fun h' tk' dx M => ?_
    refine ⟨rfl, ?_⟩
    show MkP X pins σ Q (.ref (hp.objs.size + 1)) ⟨h', g, dr, tk', os⟩
    obtain ⟨t1, hobj⟩ := M.obj
    obtain ⟨G', g1, g2⟩ := restrict h' fun b => decide (b ≠ hp.objs.size + 1)
    have gk : ∀ b, b ≠ hp.objs.size + 1 → G'.get? b = h'.get? b := fun b hb => g1 b (decide_eq_true hb)
    have gee : G'.get? (hp.objs.size + 1) = none := g2 _ (by simp)
    have kold : ∀ b o, hp.get? b = some o → h'.get? b = some o := fun b o e => M.keep b o (Nat.ne_of_lt (Nat.lt_succ_of_lt (Heap.lt_size e))) (kpp b o e)
    have old : ∀ b o, hp.get? b = some o → G'.get? b = some o := fun b o e => (gk b (Nat.ne_of_lt (Nat.lt_succ_of_lt (Heap.lt_size e)))).trans (kold b o e)
    have dbig : hp.objs.size ≤ dx := by
      have := M.dbig
      simp only [Heap.size_push] at this
      omega
    have ob : ObjOk X.prog X.w (upd H1 dx (.xd [(fld, v)])) G' dx (.xd [(fld, v)]) :=
      ⟨_, M.ns.at (fun o e => (gk dx M.dne).trans e), fun f => relO_one rv f⟩
    have Jv : Inv X pins σ (upd H1 dx (.xd [(fld, v)])) ⟨G', g, dr, tk', os⟩ := I1.laid (t' := tk') old dbig ob
    refine ⟨hp.objs.size + 1, _, _, ⟨G', g, dr, tk', os⟩, _, .ref C, some dx, rfl, Jv, fun b o e => ?_, gee, hobj, ⟨rfl, rfl⟩, rfl, rfl, ?_, rfl, I1.bare, raises_own T.ox.exC T.ox.tyC, q1 dx (I1.hok.fresh dbig)⟩
    · by_cases hb : b = hp.objs.size + 1
      · have e' : G'.get? b = some o := e
        rw [hb, gee] at e'; cases e'
      · exact (gk b hb).symm.trans e
    · rw [upd_ne (Ne.symm M.dne)]
      exact I1.hok.fresh (Nat.le_succ _)
theorem SI.newX {H : Hp} {ns : List Str} {ds : List D} {vs : List V} {L : List Ent} {p : Addr} (h : SI H (ds.zip (vs.map some) ++ L)) (e : ds.length = vs.length) (en : ns.length = ds.length) (hp : H p = none) :
    SI (upd H p (.xd (ns.zip vs))) ((.xdt ns ds, some (.ref p)) :: L) := by
  obtain ⟨G, F, r, nd, gn, l⟩ := h
  have dm := RepL.dom _ _ r
  have gp : G p = none := by
    cases e' : G p with
    | none => rfl
    | some o => have := l p o e'; rw [hp] at this; cases this
  have r' : RepL (upd G p (.xd (ns.zip vs))) (upd H p (.xd (ns.zip vs))) _ F := RepL.mono (le_upd gp) _ F r fun a ha => upd_ne fun z => dm a ha (by rw [z]; exact hp)
  obtain ⟨F1, F2, ef, r1, r2⟩ := RepL.append.mp r'
  subst ef
  refine ⟨upd G p (.xd (ns.zip vs)), F1 ++ F2, ⟨F1, F2, rfl, ?_, r2⟩, nd, fun a ha => ?_, fun a o e => ?_⟩
  · unfold Rep
    exact ⟨p, vs, rfl, Reps.of_repl r1 e, en, upd_same⟩
  · have c : a ≠ p := fun z => dm a ha (by rw [z]; exact hp)
    rw [upd_ne c]; exact gn a ha
  · by_cases c : a = p
    · subst c; rw [upd_same] at e ⊢; exact e
    · rw [upd_ne c] at e ⊢; exact l a o e
def sRaise (C : Addr) (fld : Str) (okD : D → Bool) (fa : Av) : Sv := fun e => (fa e).bind fun rs e1 => match vals rs with
  | some [d] => if okD d then .er ⟨C, [fld], [fz d]⟩ e1 else .no
  | _ => .no
theorem sj_raise {x : Str} {a : Expr} {fa : Av} {p pos pos2 : Pos} {k : Nat} {okD : D → Bool} (tk : Takes X W) (T : SxT X.prog X.K C fI cc cda fd pn fld) (MK : SxMk X.prog X.w X.K X.mg C fI fld ok) (hok : ∀ H d v, Pk H d v → okD d = true → ok v) (hr : Room k X.A) (hm : X.mg x = some (.ref C))
    (n1 : X.mg "super" = none) (n2 : X.mg "isinstance" = none) (n3 : X.mg "list" = none) (n4 : X.mg "tuple" = none) (ha : AJ X W [a] fa) (hk : 3 ≤ k := by decide) (hc : X.calm = true := by rfl) (hg : Gl X x := by rfl) (hdb : (x == ("__debug__" : Str)) = false := by decide)
    (he : starEach (a :: []) X.env = (false, eval a X.env) :: starEach [] X.env := by rfl) (hpl : (backTo pos (starEach [] X.env)).any (·.1) = false := by rfl) :
    SJ X W P (.Raise (some (.Call (.Name x p) [a] [] pos)) none pos2) (sRaise C fld okD fa) := by
  obtain ⟨t, q, kk⟩ := ha
  refine ⟨_, ps_raise hc tk (pmk_sx T MK hr hk q hm n1 n2 n3 n4 hg hdb he hpl), fun env σ K H Dn s h => ?_⟩
  refine kk env σ K H _ s (MPost.mono (SPost.bind0 h) fun rs e1 h1 vs H1 s1 o1 => ?_)
  split at h1
  case h_2 => exact h1.elim
  rename_i d hv
  split at h1
  case isFalse => exact h1.elim
  rename_i hd
  obtain ⟨ez, el⟩ := vals_ents hv o1
  match vs, el with
  | [v], _ =>
    have s2 : Stt H1 ((d, some v) :: K) e1 σ := by
      have := s1
      rw [ez] at this
      exact this
    refine ⟨v, rfl, hok H1 d v s2.si.pk hd, fun da hda => h1 σ _ da Pin.refl ⟨s1.len, ?_⟩⟩
    exact SI.newX (ns := [fld]) (ds := [fz d]) (vs := [v]) s2.si.fz rfl rfl hda
end
end VS
set_option Elab.async false
set_option linter.all false
set_option maxRecDepth 100000
set_option maxHeartbeats 2000000
namespace VS
open PySem PySem.Spec PySem.W PySem.Calls PyProof.Rows PySem.HandSPX L2
section
variable {prog : Program} {w : World} {K : Frag} {mg : Str → Option Value} {C fI cc cda : Addr} {fd : FuncData} {pn fld : Str}
def rpExpr (pn : Str) (k : Nat) (b1 b2 b3 b4 b5 b6 b7 b8 b9 b10 b11 : Pos) : Expr := .IfExp (.Call (.Name "isinstance" b1) [.Name pn b2, .Tuple [.Name "list" b3, .Name "tuple" b4] k b5] [] b6) (.Call (.Name "tuple" b7) [.Name pn b8] [] b9) (.Name pn b10) b11
structure ScR (sc : Scope) : Prop where
  isi : sc.names.lookup ("isinstance" : Str) = some .globalImplicit
  lst : sc.names.lookup ("list" : Str) = some .globalImplicit
  tup : sc.names.lookup ("tuple" : Str) = some .globalImplicit
/-- self.f = tuple(f) if isinstance(f, (list, tuple)) else f, of a whole number -/
theorem sx_mkI {msg : Str} {kk k0 : Nat} {p0 p1 p2 p3 p4 p5 q1 q2 a1 a2 a4 b1 b2 b3 b4 b5 b6 b7 b8 b9 b10 b11 : Pos} {nm qual : Str} {dV kV doc pm cdv ct : Value} {an : Option Addr} {sc : Scope} (S : ScX sc pn) (SR : ScR sc) (T : SxT prog K C fI cc cda fd pn fld)
    (hfd : fd = fnX nm qual (sxArgs pn q1 q2) [sxHead msg kk p0 p1 p2 p3 p4 p5, .Assign [.Attribute (.Name "self" a1) fld a2] (rpExpr pn k0 b1 b2 b3 b4 b5 b6 b7 b8 b9 b10 b11) a4] sc [(("__class__" : Str), cc)] dV kV doc pm an cdv ct) {pl : Sem Bool}
    (hev : ∀ env : Env, eval (.Call (.Attribute (.Call (.Name "super" p0) [] [] p1) "__init__" p2) [.Constant (.str msg) kk p3] [] p4) env = (do
      let ov ← attributeBase (.Call (.Name "super" p0) [] [] p1) "__init__" env (eval (.Call (.Name "super" p0) [] [] p1) env)
      standAt p2.atName
      let (f, first) ← holding [ov] (getMethod ov "__init__" pl)
      callWith p4 f first (backTo p4 (starEach [.Constant (.str msg) kk p3] env)) []))
    (hbind : ∀ a b : Value, bindArgs fd ⟨[a, b], []⟩ = pure [(("self" : Str), a), (pn, b)]) (hpn : pn ≠ "self" ∧ pn ≠ "__class__" ∧ pn ≠ "super" ∧ pn ≠ "__debug__")
    (hs : ∀ env : Env, swapsWith (rpExpr pn k0 b1 b2 b3 b4 b5 b6 b7 b8 b9 b10 b11) (some (.Attribute (.Name "self" a1) fld a2)) a4.line env = pure false) : SxMk prog w K mg C fI fld (fun v => ∃ i, v = .int i) := by
  intro A R s mb x t0 y v ry hok X hlim G hmg mi ml mt B hmb hx hnx hd hu hq
  obtain ⟨i, rfl⟩ := hok
  obtain ⟨tk0, rfl⟩ := ry
  refine sx_init S T hfd hev hbind hpn X hlim G hmg B ((hmb _ (by decide)).trans (by decide +kernel)) hx hnx (by omega) (fun h₂ g d t os t1 L Q E X₂ G₂ B₂ hL _ hx₂ hxL hn hq₂ => ?_) hq
  subst hfd
  have c1 : (pn == ("self" : Str)) = false := by simpa using hpn.1
  have c1' : (("self" : Str) == pn) = false := by simpa using Ne.symm hpn.1
  have hm : (fun y => [(("self" : Str), Value.ref x), (pn, Value.int i tk0)].reverse.lookup y) pn = some (Value.int i tk0) := by simp [List.lookup]
  refine sx_store T S.kind X₂ hx₂ hn S.self (by simp [List.lookup, c1']) ?_ hq₂ (hs _)
  refine wpAny_IfExp (isTrue_plain (wpAny_Call_Name_kw ?_) rfl)
  refine Calls.Name_function_global S.kind SR.isi (Calls.loadGlobal_builtin G₂ mi B₂ ((hmb _ (by decide)).trans PyProof.Rows.boot_isinstance) ?_) (by decide)
  refine PyProof.Rows.callWith_builtin1 ?_ rfl rfl
  refine spliced_cons ?_
  refine ldN S.kind hn S.par hm (by simpa using hpn.2.2.2) ?_
  refine spliced_cons (wpAny_Tuple_spliced (x1 := k0) ?_)
  refine spliced_cons (Calls.Name_function_global S.kind SR.lst (Calls.loadGlobal_builtin G₂ ml B₂ ((hmb _ (by decide)).trans PyProof.Rows.boot_list) ?_) (by decide))
  refine spliced_cons (Calls.Name_function_global S.kind SR.tup (Calls.loadGlobal_builtin G₂ mt B₂ ((hmb _ (by decide)).trans PyProof.Rows.boot_tuple) ?_) (by decide))
  refine spliced_nil ⟨by rw [sizeLine_eq]; exact (by decide : 2 ≤ 16777216), ?_⟩
  refine spliced_nil ?_
  have kp : ∀ b o, h₂.get? b = some o → (h₂.push { cls := .type "tuple", data := .seq [Value.type "list", Value.type "tuple"].toArray }).get? b = some o := fun b o e => Heap.get?_push_of_some _ e
  refine kia_tup (n := 0) (sl := #[]) (dd := none) (its := [Value.type "list", Value.type "tuple"]) kitx_int (X₂.keeps kp) trivial (Heap.get?_push_at rfl rfl) (b := false) (by first | rfl | kernel_rfl) (fun z => nomatch z) fun tk => ?_
  refine wpAny_truthy_bool ?_
  show wpAny _ _ (eval (.Name pn b10) _) _ _ _
  exact ldN S.kind (hn.keeps kp) S.par hm (by simpa using hpn.2.2.2) ⟨_, tk, rfl, rfl, kp⟩
end
end VS
set_option Elab.async false
set_option linter.all false
set_option maxRecDepth 100000
set_option maxHeartbeats 2000000
namespace VS
section
open PySem PySem.Spec PySem.W PySem.Calls PyProof.Rows PySem.HandSPX
variable {prog : Program} {w : World} {A : Around} {E : Value → Shared → Prop} {sx : Shared} {K : Frag} {Dx xx : Addr} {oxx odv : Obj}
theorem kin_classD {Qq : Option Value → Shared → Prop} (ga0 : findIn K (.ref Dx) "__getattribute__" = some (some (.builtin "BaseException.__getattribute__"))) (gt0 : findIn K (.ref Dx) "__getattr__" = some none) (sb0 : subIn K (.ref Dx) (.type "BaseException") = some true)
    (dc0 : hasDictIn K Dx = true) (ca0 : findIn K (.ref Dx) "__class__" = some (some (.builtin "object.__class__")))
    (cn0 : specialIn K (.builtin "object.__class__") "__get__" = some (some (.builtin "getset_descriptor.__get__"))) (tk0 : takesIn K (.builtin "object.__class__") = some true) (mo0 : mroIn K Dx (.type "object") = some true)
    (Xk : K.In sx.heap) (Iq : InstAt sx.heap xx oxx Dx (some odv)) (hq0 : Qq (some (.ref Dx)) { sx with toks := sx.toks + 1 }) : wpAny (model prog w) A (getAttr? (.ref xx) "__class__") Qq E sx := by
  have hfo : findObj K Dx (some odv) "__class__" = some (.bind (.builtin "getset_descriptor.__get__") (.builtin "object.__class__")) := findObj_data (by obtain ⟨cd, hc, _⟩ := any_some dc0; rw [hc]; rfl) ca0 cn0 tk0
  obtain ⟨hpp, g, d, t, os⟩ := sx
  have La := Iq.type (M := model prog w)
  have Lb := looks_findIn (M := model prog w) Xk ga0
  have Lc := looks_findIn (M := model prog w) Xk gt0
  have Ld := looks_find (M := model prog w) Xk Iq hfo
  have sbt : Looks (model prog w) hpp (isInstance (.ref xx) (.type "BaseException")) true := La.andThen (looks_subIn Xk sb0)
  have x0 : (false && onTheHeap (Value.builtin "BaseException.__getattribute__")) = false := rfl
  have x2 : (Value.builtin "BaseException.__getattribute__" == Value.builtin "object.__getattribute__") = false := by decide +kernel
  have x1 : (onTheHeap (Value.ref Dx) && Value.builtin "BaseException.__getattribute__" == Value.builtin "object.__getattribute__") = false := by rw [x2]; rfl
  unfold getAttr? getAttrBy? getAttrBy
  refine wpAny_bind (wpAny_mkText (wpAny_bind (wpAny_attempt (wpAny_holding (wpAny_bind (La.at (wpAny_bind (Lb.at ?_))))))))
  show wpAny _ _ (if (onTheHeap (Value.ref Dx) && Value.builtin "BaseException.__getattribute__" == Value.builtin "object.__getattribute__") = true then _ else _) _ _ _
  rw [x1, if_neg Bool.false_ne_true]
  unfold getAttrByItsOwn hookBefore
  refine wpAny_bind ?_
  rw [if_pos (show onTheHeap (Value.ref Dx) = true from rfl)]
  refine Lc.at ?_
  refine wpAny_bind (wpAny_attempt (wpAny_holding ?_))
  unfold callGetattribute
  rw [x0, if_neg Bool.false_ne_true]
  unfold boundAndCalled
  rw [PySem.F.excAttr_ValueError.ga.bind (.ref xx)]
  refine wpAny_bind (wpAny_pure ?_)
  show wpAny _ _ (call (.builtin "BaseException.__getattribute__") [.ref xx, .str "__class__" t]) _ _ _
  refine wpAny_call (codeAny_call_builtin PySem.F.excAttr_ValueError.ga.plain PySem.F.entry_bexc_ga ?_)
  refine @check_slot (model prog w) _ _ ⟨hpp, g, d, t + 1, os⟩ "BaseException.__getattribute__" "BaseException" "__getattribute__" (.ref xx) [.str "__class__" t] [] _ (by decide +kernel) (by decide +kernel) sbt (PySem.F.args_bexc_ga (.ref xx) (.str "__class__" t)) ?_
  unfold Builtin.«object.__getattribute__»
  refine wpAny_bind (wpAny_of_eq (a := ((Value.ref xx : Value), [Value.str "__class__" t])) (by first | rfl | (simp only [slotArgs]; rfl)) ?_)
  refine wpAny_bind (wpAny_pure (wpAny_bind (La.at (wpAny_bind (Ld.at ?_)))))
  show wpAny _ _ (holding [Value.builtin "object.__class__"] (call (.builtin "getset_descriptor.__get__") [.builtin "object.__class__", .ref xx, .ref Dx]) >>= ret) _ _ _
  refine wpAny_bind (wpAny_holding (wpAny_call (class_get (s := ⟨hpp, g, d, t + 1, os⟩) (ox := oxx) (od := some odv) Xk Iq mo0 ?_)))
  refine wpAny_pure ?_
  show wpAny _ _ (handedOut (.ref Dx)) _ _ _
  rw [handedOut_of (v := .ref Dx) rfl]
  first
    | exact wpAny_pure (wpAny_pure hq0)
    | exact wpAny_pure hq0
    | exact wpAny_pure (wpAny_bind (wpAny_pure (wpAny_pure hq0)))
theorem kitx_excD (ga0 : findIn K (.ref Dx) "__getattribute__" = some (some (.builtin "BaseException.__getattribute__"))) (gt0 : findIn K (.ref Dx) "__getattr__" = some none) (sb0 : subIn K (.ref Dx) (.type "BaseException") = some true) (dc0 : hasDictIn K Dx = true) (ca0 : findIn K (.ref Dx) "__class__" = some (some (.builtin "object.__class__")))
    (cn0 : specialIn K (.builtin "object.__class__") "__get__" = some (some (.builtin "getset_descriptor.__get__"))) (tk0 : takesIn K (.builtin "object.__class__") = some true) (mo0 : mroIn K Dx (.type "object") = some true) :
    KitX K (.ref xx) (.ref Dx) (fun hq0 => InstAt hq0 xx oxx Dx (some odv)) where
  ty := fun _ _ _ Iq => Iq.type
  it := fun _ _ Xk _ => by
    obtain ⟨cdD, hcD, _⟩ := any_some dc0
    unfold clsIn at hcD
    split at hcD
    · rename_i c' d' cd' sl' ho
      intro A' Q' E' s' k q
      unfold isType loadHead
      exact wpAny_bind (wpAny_loadPart (k _ _ (Xk _ _ ho)) (wpAny_pure q))
    · cases hcD
  ne := fun hq0 tp dd its n sl Xk htp => by
    obtain ⟨cdD, hcD, _⟩ := any_some dc0
    refine Bool.eq_false_iff.mpr fun q => ?_
    have e : Dx = tp := Value.ref.inj (beq_iff_eq.mp q)
    subst e
    unfold clsIn at hcD
    split at hcD
    · rename_i c' d' cd' sl' ho
      have z := (Xk _ _ ho).symm.trans htp
      cases z
    · cases hcD
  ca := fun Xk Iq k => kin_classD ga0 gt0 sb0 dc0 ca0 cn0 tk0 mo0 Xk Iq k
end
end VS
namespace VS
open PySem PySem.Spec PyProof.Rows L2
/-! ### the handled exception as a value -/
/-- the context holds the exception at a: of the class at c, with its dict at da -/
def HX (X : Cx) (a da c : Addr) : Prop := ∃ oe : Obj, (a, oe) ∈ X.pn ∧ oe.cls = .ref c ∧ oe.dict = some da ∧ ∃ vs, oe.data = .fields vs
theorem Pk.exo {H : Hp} {a da c : Addr} {ns : List Str} {ds : List D} {v : V} (h : Pk H (.exo a da c ns ds) v) : ∃ vs, v = .ref a ∧ H da = some (.xd (ns.zip vs)) ∧ PkL H ds vs ∧ ns.length = ds.length := by
  obtain ⟨G, F, r, l⟩ := h
  unfold Rep at r
  obtain ⟨vs, e, r, n, lo⟩ := r
  exact ⟨vs, Option.some.inj e, l _ _ lo, r.pkl l, n⟩
theorem SI.toExo {H : Hp} {a da c : Addr} {ns : List Str} {ds : List D} {L : List Ent} (h : SI H ((.xdt ns ds, some (.ref da)) :: L)) : SI H ((.exo a da c ns ds, some (.ref a)) :: L) := by
  obtain ⟨G, F, ⟨F1, F2, ef, r1, r2⟩, nd, gn, l⟩ := h
  refine ⟨G, F, ⟨F1, F2, ef, ?_, r2⟩, nd, gn, l⟩
  unfold Rep at r1 ⊢
  obtain ⟨b, vs, e, r, n, lo⟩ := r1
  cases e
  exact ⟨vs, rfl, r, n, lo⟩
/-- its field -/
theorem SI.kidXm {H : Hp} {a da c : Addr} {ns : List Str} {ds : List D} {v : V} {L : List Ent} (h : SI H L) (m : (.exo a da c ns ds, some v) ∈ L) {f : Str} {d : D} (e : fldD f ns ds = some d) (fr : fzn d = true) :
    ∃ fs w, v = .ref a ∧ H da = some (.xd fs) ∧ fs.lookup f = some w ∧ SI H ((d, some w) :: L) := by
  obtain ⟨L', h', p⟩ := h.mem m
  obtain ⟨G, F, ⟨F1, F2, ef, r1, r2⟩, nd, gn, l⟩ := h'
  have r1' := r1
  unfold Rep at r1
  obtain ⟨vs, eb, r3, n, lo⟩ := r1
  cases eb
  obtain ⟨i, e1, e2⟩ := fld_at e
  obtain ⟨w, F', e3, e4⟩ := r3.get i d e1
  have := Rep.nil d _ F' e4 fr
  subst this
  exact ⟨_, w, rfl, l _ _ lo, e2 vs w e3, SI.perm (L := (d, some w) :: (.exo a da c ns ds, some (.ref a)) :: L') ⟨G, F, ⟨[], F, rfl, e4, F1, F2, ef, r1', r2⟩, nd, gn, l⟩ (p.symm.cons _)⟩
variable {X : Cx} {W : WX} {P : List Nat} {a da c : Addr}
def gXf (a da c C : Addr) (f : Str) : D → Option D
  | .exo a' da' c' ns ds => if a' = a ∧ da' = da ∧ c' = c ∧ c = C then match fldD f ns ds with
      | some d => if fzn d then some d else none
      | none => none
    else none
  | _ => none
/-- x.f, x the handled exception -/
theorem pe_xfN {C : Addr} {e : Expr} {te : TE} {pos : Pos} {n : Str} (T : XfC X.K C) (hno : PySem.W.findIn X.K (.ref C) n = some none) (hx : HX X a da c) (he : PE X e te) (hb : attributeBase e n X.env (eval e X.env) = eval e X.env) :
    PE X (.Attribute e n pos) (fun σ H Q => te σ H fun x H1 => x = .ref a ∧ c = C ∧ ∃ (fs : List (Str × V)) (v : V), H1 da = some (.xd fs) ∧ fs.lookup n = some v ∧ Q v H1) := by
  refine ⟨fun pins s σ H Q Iv h => ?_⟩
  refine attr_of hb (thn (he.run pins s σ H _ Iv h) fun u s1 hh => ?_)
  obtain ⟨x, H1, I1, rx, ex, ec, fs, v, ea, l, q⟩ := hh
  subst ex; subst ec
  obtain rfl : u = Value.ref a := rx
  obtain ⟨oe, hp, hz1, hz2, vs, hd⟩ := hx
  obtain ⟨ha, _⟩ := I1.pin (a, oe) (List.mem_append_left _ hp)
  obtain ⟨mA, hns, hr⟩ := (show ObjOk X.prog X.w H1 s1.heap da (.xd fs) from I1.hok da _ ea)
  obtain ⟨od, ho, hl⟩ := lookIn_ns hns
  obtain ⟨u, hu, ru⟩ := RelO.some_of (v := v) (o := mA n) (by rw [← l]; exact hr n)
  have Jn : PySem.W.InstAt s1.heap a oe c (some od) := ⟨ha, hz1, by unfold PySem.W.notCls; rw [hd] <;> rfl, by rw [hz2]; exact ho⟩
  exact HandSPX.exc_get I1.kIn Jn T.ga T.gg T.exC (PySem.W.findObj_own T.hdC hno rfl (by rw [hl, hu])) (handed_of ru) ⟨v, H1, I1.tok _, ru, q⟩
theorem ejXf {C : Addr} {e : Expr} {fe : Ev} {pos : Pos} (hx : HX X a da c) (f : Str) (T : XfC X.K C) (hno : PySem.W.findIn X.K (.ref C) f = some none) (he : EJ X W e fe) (hb : attributeBase e f X.env (eval e X.env) = eval e X.env := by rfl) :
    EJ X W (.Attribute e f pos) (eU (gXf a da c C f) fe) := by
  obtain ⟨t, p, k⟩ := he
  refine ⟨_, pe_xfN T hno hx p hb, fun env σ K H Q s h => k env σ K H _ s (MPost.mono (MPost.bind0 h) fun ra e1 h1 x H1 s1 o1 => ?_)⟩
  cases px : peek ra e1 with
  | none => simp only [px] at h1; exact h1.elim
  | some dx =>
    simp only [px] at h1
    cases gz : gXf a da c C f dx with
    | none => rw [gz] at h1; exact h1.elim
    | some z =>
      rw [gz] at h1
      have m := mem_peek (L := ra.ent x ++ K ++ e1.zip σ) (e := e1) (σ := σ) o1 (fun p hp => by simp [hp]) (fun p hp => by simp [hp]) px
      unfold gXf at gz
      split at gz
      · rename_i a' da' c' ns ds
        split at gz
        · rename_i hc
          obtain ⟨e1', e2', e3', e4'⟩ := hc
          subst e1'; subst e2'; subst e3'
          split at gz
          · rename_i d hd
            split at gz
            · rename_i fr
              cases gz
              obtain ⟨fs, w, ev, ha, hl, s2⟩ := s1.si.kidXm m hd fr
              exact ⟨ev, e4', fs, w, ha, hl, h1 w H1 ⟨s1.len, SI.mid (A := [(z, some w)]) (B := ra.ent x) (L := K ++ e1.zip σ) (by simpa using s2)⟩ trivial⟩
            · cases gz
          · cases gz
        · cases gz
      · cases gz
/-- isinstance(x, class), x the handled exception -/
def gIsE (K : PySem.W.Frag) (a da : Addr) (c : Addr) (cv : Value) : D → Option D
  | .exo a' da' c' _ _ => if a' = a ∧ da' = da ∧ c' = c then match PySem.W.kitOne K (.ref c) cv with
      | some b => some (.atm (.bl b))
      | none => none
    else none
  | _ => none
theorem ejIsE {e : Expr} {fe : Ev} {n : Str} {cv : Value} {v : V} {p p2 pos : Pos} (hx : HX X a da c) (hE : ExcC X.K c) (hg : Gl X "isinstance") (hm : X.mg "isinstance" = none) (hn : PE X (.Name n p2) (tC v)) (hcv : ∀ u, RelV v u → u = cv) (he : EJ X W e fe)
    (hst : starEach (e :: [.Name n p2]) X.env = (false, eval e X.env) :: starEach [.Name n p2] X.env := by rfl) (hst2 : starEach (.Name n p2 :: []) X.env = (false, eval (.Name n p2) X.env) :: starEach [] X.env := by rfl) (hpl : (backTo pos (starEach [.Name n p2] X.env)).any (·.1) = false := by rfl) :
    EJ X W (.Call (.Name "isinstance" p) [e, .Name n p2] [] pos) (eU (gIsE X.K a da c cv) fe) := by
  obtain ⟨t, q, k⟩ := he
  have hr : CallR X (.builtin "isinstance") (fun xs H Q => ∃ (cc : V) (b : Bool) (fs : List (Str × V)), xs = [.ref a, cc] ∧ (∀ u, RelV cc u → u = cv) ∧ H da = some (.xd fs) ∧ PySem.W.kitOne X.K (.ref c) cv = some b ∧ Q (.bl b) H) := by
    intro pins s σ H xs us Q Iv r h
    obtain ⟨cc, b, fs, rfl, hc, hda, e, q⟩ := h
    obtain ⟨u1, u2, rfl, r1, r2⟩ := vals2 r
    cases r1
    have ec := hc _ r2
    subst ec
    obtain ⟨oe, hp, hz1, hz2, vs, hd⟩ := hx
    obtain ⟨hget, _⟩ := Iv.pin (a, oe) (List.mem_append_left _ hp)
    obtain ⟨mA, hns, _⟩ := (show ObjOk X.prog X.w H s.heap da (.xd fs) from Iv.hok da _ hda)
    obtain ⟨od, ho, _⟩ := lookIn_ns hns
    have Jn : PySem.W.InstAt s.heap a oe c (some od) := ⟨hget, hz1, by unfold PySem.W.notCls; rw [hd] <;> rfl, by rw [hz2]; exact ho⟩
    exact PySem.W.kia_one (kitx_excD (odv := od) hE.hg hE.hk hE.hs hE.hd hE.ha hE.hn hE.ht hE.hm) Iv.kIn Jn e (fun z => nomatch z) fun tk => ⟨.bl b, H, Iv.tok tk, rfl, q⟩
  refine ⟨_, pe_callB hr hg hm PyProof.Rows.boot_isinstance (pa_cons q (pa_cons hn pa_nil hst2) hst) (by decide) (by decide) hst hpl, fun env σ K H Q s h => ?_⟩
  refine k env σ K H _ s (MPost.mono (MPost.bind0 h) fun ra e1 h1 x H1 s1 o1 => ?_)
  cases px : peek ra e1 with
  | none => simp only [px] at h1; exact h1.elim
  | some d =>
    simp only [px] at h1
    have m := mem_peek (L := ra.ent x ++ K ++ e1.zip σ) (e := e1) (σ := σ) o1 (fun p hp => by simp [hp]) (fun p hp => by simp [hp]) px
    cases gz : gIsE X.K a da c cv d with
    | none => rw [gz] at h1; exact h1.elim
    | some z =>
      rw [gz] at h1
      unfold gIsE at gz
      split at gz
      · rename_i a' da' c' ns ds
        split at gz
        · rename_i hc
          obtain ⟨e1', e2', e3'⟩ := hc
          subst e1'; subst e2'; subst e3'
          split at gz
          · rename_i b hb
            cases gz
            obtain ⟨vs, ev, hda, _, _⟩ := (s1.si.pkm m).exo
            exact ⟨v, b, _, by rw [ev], hcv, hda, hb, h1 _ H1 ⟨s1.len, (SI.drops (M := ra.ent x) (by have := s1.si; rwa [List.append_assoc] at this)).atm nr_bl⟩ trivial⟩
          · cases gz
        · cases gz
      · cases gz
end VS
set_option Elab.async false
set_option linter.all false
set_option maxRecDepth 100000
set_option maxHeartbeats 2000000
namespace VS
open PySem PySem.Spec PyProof.Rows L2 L2H
/-! ### defs that are called in an except suite, the handled exception p known -/
structure FnX (Pg : Program) (w : World) (K : PySem.W.Frag) (mg : Str → Option Value) (base : Heap) (CX : CXT) (p : Addr × Obj) (k : Nat) (f : Addr) (fd : FuncData) (ps : List Str) (sp : Sp) : Prop where
  len : ∀ vs H Q E, sp vs H Q E → vs.length = ps.length
  run : ∀ (A : Around) (outer : List Env) (s : Shared) (H : Hp) (args : Args) (us : List Value) (vs : List V) (Q : VK) (E : XK), RoomH k A → PinOk outer H s p → Env0 Pg w K mg base A outer s H → BindsTo s fd args (ps.zip us) → Vals vs us → sp vs H Q E →
    codeAny (model Pg w) A (.call (.ref f) args) (CR CX outer Pg w H s Q E) s
theorem fn_ofX {CX : CXT} {Pg : Program} {w : World} {K : PySem.W.Frag} {mg : Str → Option Value} {bsz : Heap} {k : Nat} {f : Addr} {name qual : Str} {params : Arguments} {body : List Stmt} {scope : Scope} {dV kV doc pm cdv ct oc : Value} {an od : Option Addr}
    {osl : Array (Option Value)} {N ps : List Str} {sp : Sp} {p : Addr × Obj} (lkz : K.lookup f = some ⟨oc, od, .func (PySem.W.fnOf name qual params body scope dV kV doc pm an cdv ct), osl⟩) (hcdz : PySem.W.codeIn K cdv qual = true) (Sz : FnScope N ps scope)
    (lenz : ∀ vsz H Q Ez, sp vsz H Q Ez → vsz.length = ps.length)
    (hbody : ∀ (A : Around) (outr : List Env) (s : Shared) (H : Hp) (vsz : List V) (Q : VK) (Ez : XK), RoomH k (A.deeper (envOfC qual scope s.heap.objs.size f cdv)) → sp vsz H Q Ez →
      ∃ t, PSs (cxH CX Pg w K mg bsz N qual scope f cdv A outr s H Ez p) body t ∧ t { nx := fun _ H' => Q .non H', rt := Q } (L2.start N vsz) H) :
    FnX Pg w K mg bsz CX p (k + 1) f (PySem.W.fnOf name qual params body scope dV kV doc pm an cdv ct) ps sp := by
  refine ⟨lenz, fun A outr s H args usz vsz Q Ez hr hpinz ez0 hb r hspz => ?_⟩
  have hlz := lenz _ _ _ _ hspz
  have Kx : K.In s.heap := ez0.mod.kin.keeps fun b o e => (ez0.bs b o e).1
  have lm0 : s.heap.NoLimit := ez0.mod.nolimit.keeps fun b o e => (ez0.bs b o e).1
  have hkd : ∀ y ∈ ps.zip usz, scope.names.lookup y.1 = some .local ∨ (scope.names.lookup y.1 = some .cell ∧ ((cellsFrom (s.heap.objs.size + 1) scope.names []).lookup y.1).isSome = true) := fun ⟨n, v⟩ hy => by
    rcases Sz.par n (List.of_mem_zip hy).1 with qz | qz
    · exact .inl qz
    · exact .inr ⟨qz, PySem.W.cellsFrom_some _ _ _ (.inl qz)⟩
  refine codeAny_call_function hr.depth (Kx _ _ lkz) rfl Sz.co Sz.gen rfl (PySem.W.codeRec_of Kx hcdz) (hb _ _ _ _ ?_)
  refine wpAny_newFunctionEnv_cells Sz.kind hkd fun env he0 sz1 xz => ?_
  subst he0
  refine ⟨lm0.keeps xz.toInCall.keep, codeAny_func ?_⟩
  obtain ⟨t, htz, hqz⟩ := hbody A outr s H vsz Q Ez (hr.deeper _) hspz
  have Iz : Inv (cxH CX Pg w K mg bsz N qual scope f cdv A outr s H Ez p) [] (L2.start N vsz) H sz1 := inv_startH Sz hpinz ez0 hlz r xz
  refine wpAny_mono (htz.run [] sz1 (L2.start N vsz) H _ Iz hqz) (fun flz s' hsz => ?_) fun e s' hsz => hsz
  have fnz : ∀ {σ' : L2.St} {H' : Hp} {v : V} {u : Value}, Inv (cxH CX Pg w K mg bsz N qual scope f cdv A outr s H Ez p) [] σ' H' s' → RelV v u → Q v H' → CE outr Pg w H s Q u s' :=
    fun {σ' H' v u} Jz rvz qz => ⟨v, H', Jz.os, Jz.bare, Jz.base, Jz.hok, rvz, qz⟩
  cases flz with
  | ret u =>
    obtain ⟨v, σ', H', Jz, rvz, qz⟩ := hsz
    exact fnz Jz rvz qz
  | next =>
    obtain ⟨σ', H', Jz, qz⟩ := hsz
    exact fnz (v := V.non) (u := Value.none) Jz rfl qz
  | brk =>
    obtain ⟨_, _, _, qz⟩ := hsz
    exact False.elim qz
  | cont =>
    obtain ⟨_, _, _, qz⟩ := hsz
    exact False.elim qz


theorem FnX.mono {Pg : Program} {w : World} {K : PySem.W.Frag} {mg : Str → Option Value} {base : Heap} {CX : CXT} {p : Addr × Obj} {j k : Nat} {f : Addr} {fd : FuncData} {ps : List Str} {sp : Sp} (F : FnX Pg w K mg base CX p j f fd ps sp) (h : j ≤ k) : FnX Pg w K mg base CX p k f fd ps sp :=
  ⟨F.len, fun A outer s H args us vs Q E hr => F.run A outer s H args us vs Q E (hr.mono h)⟩
section
variable {X : Cx} {W : WX} {P : List Nat} {CX : CXT} {k : Nat} {f C : Addr} {fd : FuncData} {ps : List Str} {sp : Sp} {E : L2.St → XK} {x m : Str} {q pos apos : Pos} {e o : Expr} {es : List Expr} {ta : TE} {t : TA} {p : Addr × Obj}
theorem run_fnX {pins : List (Addr × Obj)} {σ : L2.St} {H : Hp} {s : Shared} {Q : VK} {us : List Value} {vs : List V} (F : FnX X.prog X.w X.K X.mg X.base CX p k f fd ps sp) (hr : RoomH k X.A) (hp : p ∈ X.pn) (hb : Binds X.K fd ps []) (hx : PassesAt CX X σ (E σ))
    (Iv : Inv X pins σ H s) (r : Vals vs us) (h : sp vs H Q (E σ)) : wpAny (model X.prog X.w) X.A (call (.ref f) us) (EP X pins σ Q) X.xe s := by
  have hl : us.length = ps.length := by rw [← r.length]; exact F.len _ _ _ _ h
  have b := hb s us Iv.kIn (by rw [List.append_nil]; exact hl)
  rw [List.append_nil] at b
  have Pp := Iv.pin p (List.mem_append_left _ hp)
  have hpin : PinOk X.stack H s p := ⟨Pp.1, Pp.2.1, fun hm => (List.mem_cons.mp (Iv.stkSub p.1 hm)).elim Pp.2.2.1 Pp.2.2.2.1, Pp.2.2.2.2⟩
  refine wpAny_call (codeAny_mono (F.run X.A X.stack s H ⟨us, []⟩ us vs Q (E σ) hr hpin Iv.env0 b r h) fun r s' hq => ?_)
  cases r with
  | error e => exact hx pins H s e s' Iv hq
  | ok fl =>
    cases fl with
    | ret u => exact Iv.after hq
    | next => exact False.elim hq
    | brk => exact False.elim hq
    | cont => exact False.elim hq
theorem pe_callX (F : FnX X.prog X.w X.K X.mg X.base CX p k f fd ps sp) (hr : RoomH k X.A) (hp : p ∈ X.pn) (hg : Gl X x) (hm : X.mg x = some (.ref f)) (hk : PySem.W.keepIn X.K (.ref f) = true) (hb : Binds X.K fd ps []) (hx : ∀ σ, PassesAt CX X σ (E σ))
    (ha : PA X (e :: es) t) (hdb : (x == ("__debug__" : Str)) = false) (he : starEach (e :: es) X.env = (false, eval e X.env) :: starEach es X.env) (hpl : (backTo pos (starEach es X.env)).any (·.1) = false) :
    PE X (.Call (.Name x q) (e :: es) [] pos) (tCallS sp E t) := by
  refine ⟨fun pins s σ H Q Iv h => ?_⟩
  refine wpAny_Call_Name_kw (ld_glob Iv hg hm ?_ hdb)
  refine PySem.W.callWith_K (h₀ := X.base) Iv.ok.mod.kin hk (thn (ha.run pos pins s σ H _ Iv h) fun us s1 ⟨vs, H1, I1, r, q⟩ => ⟨I1.kIn, ?_⟩) he hpl
  exact run_fnX F hr hp hb (hx σ) I1 r q
end
/-- what the context of such a def's body is -/
abbrev cxX (Pg : Program) (w : World) (K : PySem.W.Frag) (mg : Str → Option Value) (base : Heap) (N : List Str) (qual : Str) (scope : Scope) (f : Addr) (cd : Value) (A : Around) (outer : List Env) (s : Shared) (H : Hp) (E : XK) (p : Addr × Obj) : Cx := cxH (L2.CX Pg w) Pg w K mg base N qual scope f cd A outer s H E p
/-- a def by where it stands, to be called while an exception is handled -/
def FHk (Pg : Program) (w : World) (K : PySem.W.Frag) (mg : Str → Option Value) (base : Heap) (a da c : Addr) (k : Nat) (at_ : Str × Option Str) (ps : List Str) (n : Nat) (g : Fv) : Prop :=
  ∀ oe : Obj, oe.cls = .ref c → oe.dict = some da → (∃ vs, oe.data = .fields vs) → ∃ fd, FnX Pg w K mg base (L2.CX Pg w) (a, oe) k (He.fAd K at_) fd ps (spD n g) ∧ Binds K fd ps [] ∧ PySem.W.keepIn K (.ref (He.fAd K at_)) = true

section
variable {W : WX} {P : List Nat}
theorem body_read {t : TS} {b : Sv} {N : List Str} {n ns : Nat} {vs : List V} {H : Hp} {Q : VK} {E : XK} (q : SOk W P t b) (hN : N.length = ns) (hle : n ≤ ns) (hW : ∀ env x e, b env = .er x e → ∀ cls d σ H, E cls d H → W cls d σ H)
    (hsp : spD n (fnD P n ns b) vs H Q E) : t { nx := fun _ H' => Q .non H', rt := Q } (L2.start N vs) H := by
  obtain ⟨hv, ds, Kf, hl, si, post⟩ := hsp
  have hdn : ds.length = n := hl.trans hv
  have hst : Stt H Kf (ds ++ List.replicate (ns - n) .jnk) (L2.start N vs) := by
    refine ⟨by simp [L2.start, hl, hv, hN], ?_⟩
    unfold L2.start
    rw [List.zip_append (by simpa using hl), hN, hv]
    have := SI.jnks si (ns - n) (ns - n)
    refine this.perm ?_
    refine (List.perm_append_comm).trans ?_
    refine (List.perm_append_comm.append_right _).trans ?_
    rw [List.append_assoc]
  refine q _ _ Kf H _ hst ?_
  unfold fnD at post
  rw [if_pos hdn] at post
  have fin : ∀ (d : D) (e : EnvD) (v : V) (σ' : L2.St) (H' : Hp), Pin P (L2.start N vs) σ' → Stt H' ((d, some v) :: Kf) e σ' → SI H' ((d, some v) :: ((maskD P 0 (e.take n)).zip (vs.map some) ++ Kf)) := by
    intro d e v σ' H' pn s'
    have hlen : vs.length ≤ e.length ∨ σ'.length < vs.length := by
      have := s'.len
      omega
    have pw : ∀ j w, vs[j]? = some w → P.contains (0 + j) = true → σ'[j]? = some (some w) := by
      intro j w e1 c
      rw [Nat.zero_add] at c
      rw [pn.2 j (List.contains_iff_mem.mp c)]
      unfold L2.start
      rw [List.getElem?_append_left (by
        obtain ⟨z, _⟩ := List.getElem?_eq_some_iff.mp e1
        simpa using z), List.getElem?_map, e1]
      rfl
    rcases hlen with hlen | hlen
    · have := mask_ok vs e σ' 0 ((d, some v) :: Kf) s'.si hlen pw
      rw [hv] at this
      refine this.perm ?_
      show ((d, some v) :: (Kf ++ (maskD P 0 (e.take n)).zip (vs.map some))).Perm _
      exact List.perm_append_comm.cons _
    · -- the frame's slots do not vanish: still, show it by the shorter list
      have hz : ∀ (vs : List V) (e : EnvD) (σ : L2.St) (i : Nat) (L : List Ent), e.length = σ.length → SI H' (L ++ e.zip σ) → (∀ j v, vs[j]? = some v → P.contains (i + j) = true → σ[j]? = some (some v)) → SI H' (L ++ (maskD P i (e.take vs.length)).zip (vs.map some)) := by
        intro vs
        induction vs with
        | nil => intro e σ i L hl s h; have := SI.drops (M := e.zip σ) (s.perm List.perm_append_comm); simpa [maskD] using this
        | cons v vs ih =>
          intro e σ i L hl s h
          cases e with
          | nil => have := SI.drops (M := ([] : EnvD).zip σ) (s.perm List.perm_append_comm); simpa [maskD] using this
          | cons d e => cases σ with
            | nil => simp at hl
            | cons o σ =>
              have s1 : SI H' (((d, o) :: L) ++ e.zip σ) := s.perm (by
                show (L ++ (d, o) :: e.zip σ).Perm ((d, o) :: (L ++ e.zip σ))
                exact List.perm_middle)
              have ih := ih e σ (i + 1) ((d, o) :: L) (by simpa using hl) s1 (fun j w e1 c => by
                have := h (j + 1) w (by simpa using e1) (by rw [show i + (j + 1) = i + 1 + j by omega]; exact c)
                simpa using this)
              show SI H' (L ++ ((if P.contains i then d else .jnk), some v) :: (maskD P (i + 1) (e.take vs.length)).zip (vs.map some))
              cases c : P.contains i with
              | true =>
                have := h 0 v rfl (by simpa using c)
                simp at this
                subst this
                exact ih.perm List.perm_middle.symm
              | false => exact (SI.jnk ih.drop).perm List.perm_middle.symm
      have := hz vs e σ' 0 ((d, some v) :: Kf) s'.len s'.si pw
      rw [hv] at this
      refine this.perm ?_
      show ((d, some v) :: (Kf ++ (maskD P 0 (e.take n)).zip (vs.map some))).Perm _
      exact List.perm_append_comm.cons _
  cases be : b (ds ++ List.replicate (ns - n) .jnk) with
  | no => rw [be] at post; exact post
  | er x e =>
    rw [be] at post
    exact fun σ' H' da pn s' => hW _ x e be _ _ σ' H' (post H' da (SI.drops (M := e.zip σ') (s'.si.perm List.perm_append_comm)))
  | ok o e =>
    rw [be] at post
    cases o with
    | rt d => exact fun v σ' H' pn s' => post v H' (fin d e v σ' H' pn s')
    | nx => exact fun σ' H' pn s' => post .non H' (fin _ e .non σ' H' pn ⟨s'.len, s'.si.atm (fun _ z => by cases z)⟩)
    | bk => exact post.elim
    | ct => exact post.elim


end
theorem sok_noEr {P : List Nat} {t : TS} {b : Sv} (q : SOk WF P t b) : SOk WF P t (fun e => noEr (b e)) := fun env σ K H Dn s h => q env σ K H Dn s (by
  have h : SPost WF P K σ Dn (noEr (b env)) := h
  cases e : b env with
  | no => rw [e] at h; exact h
  | er x e' => rw [e] at h; exact h.elim
  | ok o e' => rw [e] at h; exact h)
/-- a def that is called while an exception is handled -/
theorem fn_jX {Pg : Program} {w : World} {K : PySem.W.Frag} {mg : Str → Option Value} {base : Heap} {a da c : Addr} {P : List Nat} {x qual : Str} {params : Arguments} {body : List Stmt} {scope : Scope} {at_ : Str × Option Str} {N ps : List Str} {k n ns : Nat} {b : Sv} (F : ∃ fd, FunD K x qual params body scope [] [] (He.fAd K at_) fd) (S : FnScope N ps scope)
    (hbind : ∀ (kV doc pm : Value) (an : Option Addr) (cdv ct : Value) (us : List Value), us.length = ps.length → bindArgs (PySem.W.fnOf x qual params body scope .none kV doc pm an cdv ct) ⟨us, []⟩ = pure (ps.zip us))
    (hn : ps.length = n) (hN : N.length = ns) (hle : n ≤ ns)
    (hb : ∀ (oe : Obj) (cdv : Value) (A : Around) (outer : List Env) (s : Shared) (H : Hp) (E : XK), RoomH k (A.deeper (envOfC qual scope s.heap.objs.size (He.fAd K at_) cdv)) →
      HX (cxX Pg w K mg base N qual scope (He.fAd K at_) cdv A outer s H E (a, oe)) a da c →
      BJ (cxX Pg w K mg base N qual scope (He.fAd K at_) cdv A outer s H E (a, oe)) WF P body b) :
    FHk Pg w K mg base a da c (k + 1) at_ ps n (fnD P n ns (fun e => noEr (b e))) := by
  intro oe h1 h2 h3
  obtain ⟨fd, F⟩ := F
  refine ⟨fd, ?_, F.bindsN hbind, F.kp⟩
  obtain ⟨oc, od, dV, kV, doc, pm, an, cdv, ct, osl, rfl, lk, hcd, _, _⟩ := F.ex
  refine fn_ofX lk hcd S (fun vs H Q E h => h.1.trans hn.symm) fun A outer s H vs Q E hr hsp => ?_
  obtain ⟨t, p, q⟩ := hb oe cdv A outer s H E hr ⟨oe, List.mem_singleton.mpr rfl, h1, h2, h3⟩
  exact ⟨t, p, body_read (sok_noEr q) hN hle (fun env x e z => by
    have z : noEr (b env) = .er x e := z
    cases y : b env <;> rw [y] at z <;> cases z) hsp⟩
section
variable {X : Cx} {W : WX} {P : List Nat} {a da c : Addr} {k kk n : Nat} {ps : List Str} {g : Fv} {x : Str} {p pos : Pos} {e : Expr} {es : List Expr} {fa : Av}
theorem ejFX (tk : Takes X W) (F : FHk X.prog X.w X.K X.mg X.base a da c k (x, none) ps n g) (hx : HX X a da c) (hr : RoomH kk X.A) (hm : X.mg x = some (.ref (He.ga X.K x))) (ha : AJ X W (e :: es) fa) (hk : k ≤ kk := by decide) (hg : Gl X x := by rfl) (hdb : (x == ("__debug__" : Str)) = false := by decide) (he : starEach (e :: es) X.env = (false, eval e X.env) :: starEach es X.env := by rfl) (hpl : (backTo pos (starEach es X.env)).any (·.1) = false := by rfl) :
    EJ X W (.Call (.Name x p) (e :: es) [] pos) (eCall n g fa) := by
  obtain ⟨oe, hp, h1, h2, h3⟩ := hx
  obtain ⟨fd, F, hb, hkp⟩ := F oe h1 h2 h3
  obtain ⟨t, q, kq⟩ := ha
  exact ⟨_, pe_callX F (hr.mono hk) hp hg hm hkp hb (fun σ => passAt tk σ) q hdb he hpl, eok_call kq⟩
end
end VS
set_option Elab.async false
set_option linter.all false
set_option maxRecDepth 100000
set_option maxHeartbeats 2000000
namespace VS
open PySem PySem.Spec PyProof.Rows L2 L2H
/-! ### try: body, except C as n: suite -/
def tS (W : WX) (P : List Nat) (f : Sv) : TS := fun D σ H => ∃ env K, Stt H K env σ ∧ SPost W P K σ D (f env)
theorem BJ.pss {X : Cx} {W : WX} {P : List Nat} {s : List Stmt} {f : Sv} (h : BJ X W P s f) : PSs X s (tS W P f) := by
  obtain ⟨t, p, q⟩ := h
  exact ⟨fun pins s σ H D I ⟨env, K, s', h'⟩ => p.run pins s σ H D I (q env σ K H D s' h')⟩
abbrev Gx := Exn → EnvD → Option (Out × EnvD)
def sTry (K : PySem.W.Frag) (C : Addr) (i : Nat) (f : Sv) (gs : Gx) : Sv := fun e => match f e with
  | .no => .no
  | .ok o e1 => .ok o e1
  | .er x e1 => match PySem.W.exmOne K (.ref x.c) (.ref C) with
    | some true => if i < e1.length then match gs x e1 with
        | some (o, e2) => .ok o e2
        | none => .no
      else .no
    | some false => .er x e1
    | none => .no
/-- what the suite answers, whatever the places are -/
def GxOk (kn : Addr → Prop) (i : Nat) (fs : Addr → Addr → Addr → Sv) (gs : Gx) : Prop := ∀ x e o e', i < e.length → gs x e = some (o, e') → kn x.c ∧ ∀ a da, ∃ e2, fs a da x.c (e.set i (.exo a da x.c x.ns x.ds)) = .ok o e2 ∧ e' = e2.set i .jnk
def tSu (kn : Addr → Prop) (P : List Nat) (fs : Addr → Addr → Addr → Sv) : Addr → Value → Option Addr → TS := fun a cls d => match cls, d with
  | .ref c, some da => fun D σ H => kn c ∧ tS WF P (fs a da c) D σ H
  | _, _ => fun _ _ _ => False
theorem sj_try {X : Cx} {W : WX} {P : List Nat} {C : Addr} {i : Nat} {x n : Str} {body suite : List Stmt} {b₀ : Stmt} {np pos pos' : Pos} {f : Sv} {fs : Addr → Addr → Addr → Sv} {gs : Gx} {kn : Addr → Prop}
    (tk : Takes X W) (hm : X.mg x = some (.ref C)) (hN : X.N.Nodup) (hb : ∀ (W' : WX) (pn : List (Addr × Obj)) (xe : Value → Shared → Prop), Takes (X.tr pn xe) W' → PassesOwn (model X.prog X.w) X.A X.env xe → BJ (X.tr pn xe) W' P body f)
    (hsu : ∀ (a da c : Addr) (oe : Obj) (pn : List (Addr × Obj)), kn c → HX (X.suite a ((a, oe) :: pn)) a da c → BJ (X.suite a ((a, oe) :: pn)) WF P (b₀ :: suite) (fs a da c))
    (hg : GxOk kn i fs gs) (hP : P.contains i = false := by rfl) (hi : X.N[i]? = some n := by rfl) (hgl : Gl X x := by rfl) (hdb : (x == ("__debug__" : Str)) = false := by decide) (hln : X.env.kindOf n = some .local := by rfl)
    (hs : X.stack = X.env :: X.outer := by rfl) (hf : X.env.frame = some X.env.locals := by rfl) :
    SJ X W P (.Try body [.ExceptHandler (some (.Name x np)) (some n) (b₀ :: suite) pos'] [] [] pos) (sTry X.K C i f gs) := by
  refine ⟨_, ps_try_as (tb := fun W' => tS W' P f) (ts := tSu kn P fs) hs hf hN hi hln ⟨hgl, hdb, .inl hm⟩ tk (fun W' pn xe tk' po => (hb W' pn xe tk' po).pss) (fun a oe cls d pn hz hv => ?_), fun env σ K H D s h => ⟨env, K, s, ?_⟩⟩
  · unfold tSu
    split
    · rename_i c da
      exact ⟨fun pins s σ H D I h => ((hsu a da c oe pn h.1 ⟨oe, List.mem_cons_self, hz.1, hz.2, hv⟩).pss).run pins s σ H D I h.2⟩
    · exact ⟨fun pins s σ H D I h => h.elim⟩
  · unfold sTry at h
    cases e : f env with
    | no => rw [e] at h; exact h
    | ok o e1 => rw [e] at h; exact h
    | er x e1 =>
      rw [e] at h
      simp only at h
      intro σ' H' da pn s'
      cases ex : PySem.W.exmOne X.K (.ref x.c) (.ref C) with
      | none => rw [ex] at h; exact h.elim
      | some b =>
        rw [ex] at h
        cases b with
        | false => exact ⟨false, ex, (fun z => nomatch z), fun _ => h σ' H' da pn s'⟩
        | true =>
          refine ⟨true, ex, fun _ a na => ?_, fun z => nomatch z⟩
          simp only at h
          split at h
          case isFalse => exact h.elim
          rename_i hi'
          split at h
          case h_2 => exact h.elim
          rename_i o e2 hgs
          obtain ⟨hk, hg'⟩ := hg x e1 o e2 hi' hgs
          obtain ⟨e3, q1, q2⟩ := hg' a da
          subst q2
          show kn x.c ∧ tS WF P (fs a da x.c) _ _ _
          have hni : i ∉ P := fun z => by rw [List.contains_iff_mem.mpr z] at hP; cases hP
          have s2 : Stt H' K (e1.set i (.exo a da x.c x.ns x.ds)) (σ'.set i (some (.ref a))) := Stt.put ⟨s'.len, SI.toExo s'.si⟩ hi'
          have pn2 : ∀ σ2, Pin P (σ'.set i (some (.ref a))) σ2 → Pin P σ (σ2.set i none) := fun σ2 p2 => (pn.trans (pin_set hni)).trans (p2.trans (pin_set hni))
          refine ⟨hk, _, K, s2, ?_⟩
          rw [q1]
          cases o with
          | nx => exact fun σ2 H2 p2 s3 => h _ H2 (pn2 σ2 p2) (s3.putJ i)
          | rt d => exact fun v σ2 H2 p2 s3 => h v _ H2 (pn2 σ2 p2) (s3.putJ i)
          | bk => exact fun σ2 H2 p2 s3 => h _ H2 (pn2 σ2 p2) (s3.putJ i)
          | ct => exact fun σ2 H2 p2 s3 => h _ H2 (pn2 σ2 p2) (s3.putJ i)
theorem roomM {k : Nat} {A : Around} {o : Option Value} (r : Room k A) : RoomH k (A.mark o) := ⟨r.dp, r.un⟩
end VS
set_option Elab.async false
set_option linter.all false
set_option maxRecDepth 100000
set_option maxHeartbeats 2000000
namespace VS
open PySem PySem.Spec PyProof.Rows L2
variable {X : Cx} {W : WX} {P : List Nat}
/-! ### l.count(True) of a list of bools -/
def eqb (v : Value) : Bool := match v with
  | .bool b => b
  | _ => false
theorem eqb_vals : ∀ {bs : List Bool} {us : List Value}, Vals (bs.map V.bl) us → us = bs.map Value.bool
  | [], us, r => by cases r; rfl
  | b :: bs, us, r => by
    cases r with
    | cons r1 r2 => rw [eqb_vals r2, show _ = Value.bool b from r1]; rfl
theorem eqb_count : ∀ (bs : List Bool), (bs.map Value.bool).countP eqb = bs.count true
  | [] => rfl
  | b :: bs => by
    rw [List.map_cons, List.countP_cons, eqb_count bs, List.count_cons]
    cases b <;> rfl
def rCntB (Kf : PySem.W.Frag) : V → List V → Hp → VK → Prop := fun x xs H Q => ∃ (a : Addr) (bs : List Bool), x = .ref a ∧ xs = [.bl true] ∧ SqL Kf H a (bs.map V.bl) ∧ Q (.int (bs.count true : Nat)) H
theorem mt_cntB : MtR X "list.count" (rCntB X.K) := by
  intro pins s σ H x xs v us Q I rx rxs h
  obtain ⟨a, bs, rfl, rfl, hsq, q⟩ := h
  cases rx
  obtain ⟨u, rfl, ru⟩ := rxs.one
  have ru : u = Value.bool true := ru
  subst ru
  obtain ⟨items, rv, ⟨⟨cls0, dd0, data0, sl0⟩, n0, hget, hcl, hdi, hda⟩, hsz⟩ := I.list hsq
  simp only at hcl hda
  subst hcl hda
  have hi := eqb_vals rv
  subst hi
  refine call_meets PySem.F.slot_list_count ⟨_, hget, rfl⟩ PySem.F.entry_list_count (PySem.F.args_list_count_2 _ _)
    (SeqAt.list_countAt a (bs.map Value.bool).toArray n0 dd0 sl0 (.bool true) eqb) ⟨hget, fun y hy => ?_, ?_⟩
  · have hm : y ∈ bs.map Value.bool := by simpa using hy
    obtain ⟨b, _, rfl⟩ := List.mem_map.mp hm
    have := PySem.SeqAt.EqAt.bool_bool (A := X.A.in1) (s := s) b true
    rw [show (b == true) = eqb (.bool b) by cases b <;> rfl] at this
    exact this
  · refine ⟨.int (bs.count true : Nat), H, I.tok _, ⟨s.toks, ?_⟩, q⟩
    show Value.int (((bs.map Value.bool).toArray.toList.countP eqb : Nat) : Int) s.toks = _
    rw [show (bs.map Value.bool).toArray.toList = bs.map Value.bool from rfl, eqb_count]
def boolsD : List D → Option (List Bool)
  | [] => some []
  | .atm (.bl b) :: r => match boolsD r with
    | some bs => some (b :: bs)
    | none => none
  | _ => none
theorem boolsD_vals {H : Hp} : ∀ {ds : List D} {bs : List Bool} {vs : List V}, boolsD ds = some bs → PkL H ds vs → vs = bs.map V.bl
  | [], bs, vs, h, p => by
    cases h
    cases vs with
    | nil => rfl
    | cons v vs => cases p.1
  | d :: ds, bs, vs, h, p => by
    unfold boolsD at h
    split at h
    · rename_i r e; cases e
    · rename_i b r e
      cases e
      split at h
      · rename_i bs' hb
        cases h
        cases vs with
        | nil => cases p.1
        | cons v vs =>
          obtain ⟨v', e1, pk⟩ := p.2 0 _ rfl
          cases e1
          have := boolsD_vals (H := H) (vs := vs) hb ⟨by have := p.1; simpa using this, fun i d hd => by
            obtain ⟨v, e1, pk⟩ := p.2 (i + 1) d (by simpa using hd)
            exact ⟨v, by simpa using e1, pk⟩⟩
          rw [this, pk.atm]; rfl
      · cases h
    · cases h
def gCntT : D → Option D
  | .lst _ ds => match boolsD ds with
    | some bs => some (.atm (.int (bs.count true : Nat)))
    | none => none
  | _ => none
theorem ej_cntT {o : Expr} {fo : Ev} {k : _} {p1 apos cpos : Pos} (ho : EJ X W o fo)
    (hbase : attributeBase o "count" X.env (eval o X.env) = eval o X.env := by rfl)
    (hfew : ((backTo cpos (starEach [Expr.Constant (.bool true) k p1] X.env)).all (fun x => !x.1) && (backToKw cpos (keywordEach [] X.env)).all (fun x => x.1.isSome)
      && decide ([Expr.Constant (.bool true) k p1].length + ([] : List Keyword).length + (if ([] : List Keyword).isEmpty then 0 else 1) < 30)) = true := by rfl)
    (hline : (apos.endLine == cpos.line) = true := by rfl) (hs : starEach [Expr.Constant (.bool true) k p1] X.env = (false, eval (Expr.Constant (.bool true) k p1) X.env) :: starEach [] X.env := by rfl) (hplain : (backTo cpos (starEach [] X.env)).any (·.1) = false := by rfl) :
    EJ X W (.Call (.Attribute o "count" apos) [Expr.Constant (.bool true) k p1] [] cpos) (eU gCntT fo) := by
  obtain ⟨t, p, kk⟩ := ho
  refine ⟨_, pe_bm PySem.F.plainAttrs_list PySem.F.slot_list_count PySem.F.type_list_count mt_cntB p (pa_cons pe_bl pa_nil hs) hbase hfew hline hs hplain, fun env σ K H Q s h => ?_⟩
  refine kk env σ K H _ s (MPost.mono (MPost.bind0 h) fun ra e1 h1 x H1 s1 o1 => ?_)
  cases px : peek ra e1 with
  | none => simp only [px] at h1; exact h1.elim
  | some d =>
    simp only [px] at h1
    have m := mem_peek (L := ra.ent x ++ K ++ e1.zip σ) (e := e1) (σ := σ) o1 (fun p hp => by simp [hp]) (fun p hp => by simp [hp]) px
    cases gz : gCntT d with
    | none => rw [gz] at h1; exact h1.elim
    | some z =>
      rw [gz] at h1
      unfold gCntT at gz
      split at gz
      · rename_i own ds
        split at gz
        · rename_i bs hb
          cases gz
          obtain ⟨a, vs, ev, ha, pk⟩ := (s1.si.pkm m).lst
          subst ev
          have := boolsD_vals hb pk
          subst this
          refine ⟨.inl ⟨rfl, _, .inl (.inl ha)⟩, a, bs, rfl, rfl, .inl (.inl ha), h1 _ H1 ⟨s1.len, (SI.drops (M := ra.ent (.ref a)) (by have := s1.si; rwa [List.append_assoc] at this)).atm nr_int⟩ trivial⟩
        · cases gz
      · cases gz
end VS
set_option Elab.async false
set_option linter.all false
set_option maxRecDepth 100000
set_option maxHeartbeats 2000000
namespace VS
open PySem PySem.Spec PyProof.Rows L2 L2H
/-! ### raise, by the class's name -/
def okI : D → Bool
  | .atm (.int _) => true
  | _ => false
structure Rz (prog : Program) (w : World) (K : PySem.W.Frag) (mg : Str → Option Value) (C : Addr) (fld : Str) : Prop where
  ex : ∃ fI cc cda fd pn, ∃ ok : V → Prop, SxT prog K C fI cc cda fd pn fld ∧ SxMk prog w K mg C fI fld ok ∧ ∀ H d v, Pk H d v → okI d = true → ok v
  n1 : mg "super" = none
  n2 : mg "isinstance" = none
  n3 : mg "list" = none
  n4 : mg "tuple" = none
variable {X : Cx} {W : WX} {P : List Nat}
theorem xraise {x fld : Str} {a : Expr} {fa : Av} {p pos pos2 : Pos} {k : Nat} (tk : Takes X W) (Z : Rz X.prog X.w X.K X.mg (He.ga X.K x) fld) (hr : Room k X.A) (hm : X.mg x = some (.ref (He.ga X.K x))) (ha : AJ X W [a] fa) (hk : 3 ≤ k := by decide) (hc : X.calm = true := by rfl) (hg : Gl X x := by rfl) (hdb : (x == ("__debug__" : Str)) = false := by decide)
    (he : starEach (a :: []) X.env = (false, eval a X.env) :: starEach [] X.env := by rfl) (hpl : (backTo pos (starEach [] X.env)).any (·.1) = false := by rfl) :
    SJ X W P (.Raise (some (.Call (.Name x p) [a] [] pos)) none pos2) (sRaise (He.ga X.K x) fld okI fa) := by
  obtain ⟨fI, cc, cda, fd, pn, ok, T, MK, hok⟩ := Z.ex
  exact sj_raise tk T MK hok hr hm Z.n1 Z.n2 Z.n3 Z.n4 ha hk hc hg hdb he hpl
/-! ### properties, constants -/
def FOkP (Pg : Program) (w : World) (K : PySem.W.Frag) (mg : Str → Option Value) (base : Heap) (k : Nat) (p : Str × Str) (ps : List Str) (g : Fv) : Prop :=
  ∃ pp gg, PropOf K (He.ga K p.1) p.2 pp gg ∧ ∃ fd, FnOk Pg w K mg base (L2.CX Pg w) k gg fd ps (spD 1 g) ∧ Binds K fd ps []
theorem fn_jP {Pg : Program} {w : World} {K : PySem.W.Frag} {mg : Str → Option Value} {base : Heap} {x qual : Str} {params : Arguments} {body : List Stmt} {scope : Scope} {p : Str × Str} {N ps : List Str} {k ns : Nat} {b : Sv} (F : ∃ pp gg, PropOf K (He.ga K p.1) p.2 pp gg ∧ ∃ fd, FunD K x qual params body scope [] [] gg fd) (S : FnScope N ps scope)
    (hbind : ∀ (kV doc pm : Value) (an : Option Addr) (cdv ct : Value) (us : List Value), us.length = ps.length → bindArgs (PySem.W.fnOf x qual params body scope .none kV doc pm an cdv ct) ⟨us, []⟩ = pure (ps.zip us))
    (hn : ps.length = 1) (hN : N.length = ns) (hle : 1 ≤ ns)
    (hb : ∀ (f : Addr) (cdv : Value) (A : Around) (outer : List Env) (s : Shared) (H : Hp) (E : XK), Room k (A.deeper (envOfC qual scope s.heap.objs.size f cdv)) →
      Takes (cxOf (L2.CX Pg w) Pg w K mg base N qual scope f cdv A outer s H E) (fun cls d _ H => E cls d H) →
      PassesOwn (model Pg w) (A.deeper (envOfC qual scope s.heap.objs.size f cdv)) (envOfC qual scope s.heap.objs.size f cdv) (cxOf (L2.CX Pg w) Pg w K mg base N qual scope f cdv A outer s H E).xe →
      BJ (cxOf (L2.CX Pg w) Pg w K mg base N qual scope f cdv A outer s H E) (fun cls d _ H => E cls d H) [0] body b) :
    FOkP Pg w K mg base (k + 1) p ps (fnD [0] 1 ns b) := by
  obtain ⟨pp, gg, hp, fd, F⟩ := F
  exact ⟨pp, gg, hp, fd, fn_j F S hn hN hle rfl (hb gg), F.bindsN hbind⟩
theorem ejPropP {k kk : Nat} {cn m : Str} {ps : List Str} {g : Fv} {o : Expr} {fo : Ev} {pos : Pos} (c : Cls X.K (He.ga X.K cn)) (F : FOkP X.prog X.w X.K X.mg X.base k (cn, m) ps g) (hr : Room kk X.A) (ho : EJ X W o fo) (hk : k + 1 ≤ kk := by decide)
    (hab : attributeBase o m X.env (eval o X.env) = eval o X.env := by rfl) : EJ X W (.Attribute o m pos) (eProp (He.ga X.K cn) g fo) := by
  obtain ⟨pp, gg, hp, fd, F, hb⟩ := F
  exact ej_prop c hp F (hr.mono hk) hb ho hab
theorem ej_conF {C : Addr} {f : Str} {v : V} {o : Expr} {fo : Ev} {pos : Pos} (c : Cls X.K C) (n : ∃ u, Con X.K C f v u) (hv : NR v) (ho : EJ X W o fo) (hb : attributeBase o f X.env (eval o X.env) = eval o X.env := by rfl) : EJ X W (.Attribute o f pos) (eU (gCon C f v) fo) := by
  obtain ⟨u, n⟩ := n
  exact ej_con c n hv ho hb
/-! ### in a suite -/
theorem hu65H {k : Nat} {A : Around} (r : RoomH k A) : A.units + 65 < cLine := by have := r.un; omega
variable {a da c : Addr}
theorem xisE {e : Expr} {fe : Ev} {n : Str} {p p2 pos : Pos} (hx : HX X a da c) (hE : ExcC X.K c) (h1 : X.mg "isinstance" = none) (h2 : X.mg n = some (.ref (He.ga X.K n))) (he : EJ X W e fe) (hg : Gl X "isinstance" := by rfl) (hgn : Gl X n := by rfl) (hd : (n == ("__debug__" : Str)) = false := by decide)
    (hst : starEach (e :: [.Name n p2]) X.env = (false, eval e X.env) :: starEach [.Name n p2] X.env := by rfl) (hst2 : starEach (.Name n p2 :: []) X.env = (false, eval (.Name n p2) X.env) :: starEach [] X.env := by rfl) (hpl : (backTo pos (starEach [.Name n p2] X.env)).any (·.1) = false := by rfl) :
    EJ X W (.Call (.Name "isinstance" p) [e, .Name n p2] [] pos) (eU (gIsE X.K a da c (.ref (He.ga X.K n))) fe) :=
  ejIsE (v := .ref (He.ga X.K n)) hx hE hg h1 (pe_glob hgn h2 rfl hd) (fun u r => r) he hst hst2 hpl
theorem xisB {e : Expr} {fe : Ev} {n : Str} {nn : String} {p p2 pos : Pos} (hx : HX X a da c) (hE : ExcC X.K c) (h1 : X.mg "isinstance" = none) (h2 : X.mg n = none) (hv : bootBuiltins n = some (.type nn)) (he : EJ X W e fe) (hg : Gl X "isinstance" := by rfl) (hgn : Gl X n := by rfl) (hnn : n ≠ "__name__" := by decide) (hd : (n == ("__debug__" : Str)) = false := by decide)
    (hst : starEach (e :: [.Name n p2]) X.env = (false, eval e X.env) :: starEach [.Name n p2] X.env := by rfl) (hst2 : starEach (.Name n p2 :: []) X.env = (false, eval (.Name n p2) X.env) :: starEach [] X.env := by rfl) (hpl : (backTo pos (starEach [.Name n p2] X.env)).any (·.1) = false := by rfl) :
    EJ X W (.Call (.Name "isinstance" p) [e, .Name n p2] [] pos) (eU (gIsE X.K a da c (.type nn)) fe) :=
  ejIsE (v := .ty nn) hx hE hg h1 (pe_bltn hgn h2 hv rfl hnn hd) (fun u r => r) he hst hst2 hpl
end VS
namespace VS
open PySem PySem.Spec PyProof.Rows L2 L2H
theorem fok_no {Pg : Program} {w : World} {K : PySem.W.Frag} {mg : Str → Option Value} {base : Heap} {x qual : Str} {params : Arguments} {body : List Stmt} {scope : Scope} {p : Str × Option Str} {ps : List Str} {n : Nat} (F : ∃ fd, FunD K x qual params body scope [] [] (He.fAd K p) fd)
    (hbind : ∀ (kV doc pm : Value) (an : Option Addr) (cdv ct : Value) (us : List Value), us.length = ps.length → bindArgs (PySem.W.fnOf x qual params body scope .none kV doc pm an cdv ct) ⟨us, []⟩ = pure (ps.zip us)) :
    FOk Pg w K mg base 0 p ps n (fun _ => .no) := by
  obtain ⟨fd, F⟩ := F
  refine ⟨fd, ⟨fun vs H Q E h => ?_, fun _ _ _ _ _ _ vs Q E _ _ _ _ h => ?_⟩, F.bindsN hbind, F.kp⟩
  · obtain ⟨_, ds, _, _, _, h⟩ := h
    exact h.elim
  · obtain ⟨_, ds, _, _, _, h⟩ := h
    exact h.elim
end VS
namespace VS
open PySem PySem.Spec PyProof.Rows L2 L2H
theorem Pin.less {P P' : List Nat} {σ σ' : L2.St} (h : ∀ j ∈ P, j ∈ P') (p : Pin P' σ σ') : Pin P σ σ' := ⟨p.1, fun j hj => p.2 j (h j hj)⟩
theorem OPost.more {P P' : List Nat} {K : List Ent} {σ : L2.St} {Dn : Ends} {e : EnvD} {o : Out} (hp : ∀ j ∈ P, j ∈ P') (h : OPost P K σ Dn e o) : OPost P' K σ Dn e o := by
  cases o with
  | nx => exact fun σ' H' p s => h σ' H' (p.less hp) s
  | rt d => exact fun v σ' H' p s => h v σ' H' (p.less hp) s
  | bk => exact fun σ' H' p s => h σ' H' (p.less hp) s
  | ct => exact fun σ' H' p s => h σ' H' (p.less hp) s
theorem SPost.more {W : WX} {P P' : List Nat} {K : List Ent} {σ : L2.St} {Dn : Ends} {m : M Out} (hp : ∀ j ∈ P, j ∈ P') (h : SPost W P K σ Dn m) : SPost W P' K σ Dn m := by
  cases m with
  | no => exact h
  | er x e => exact fun σ' H' da p s => h σ' H' da (p.less hp) s
  | ok o e => exact OPost.more hp h
/-- a slot that is kept through a statement alone -/
theorem sj_pin {X : Cx} {W : WX} {P : List Nat} (i : Nat) {s : Stmt} {f : Sv} (h : SJ X W (i :: P) s f) : SJ X W P s f := by
  obtain ⟨t, p, q⟩ := h
  exact ⟨t, p, fun env σ K H D st m => q env σ K H D st (SPost.more (fun j hj => List.mem_cons_of_mem _ hj) m)⟩
end VS
set_option Elab.async false
set_option linter.all false
set_option maxRecDepth 100000
set_option maxHeartbeats 2000000
namespace VS
open PySem PySem.Spec PyProof.Rows L2
/-! ### slots that are forgotten -/
def sWp (vs : List Nat) (f : Sv) : Sv := fun e => match f e with
  | .ok o e1 => .ok o (wipeE e1 vs)
  | m => m
theorem Stt.forget1 {H : Hp} {K : List Ent} {e : EnvD} {σ : L2.St} (s : Stt H K e σ) (i : Nat) : Stt H K (e.set i .jnk) σ := by
  by_cases c : i < e.length
  · have hs : i < σ.length := by rw [← s.len]; exact c
    have := (Stt.mk (H := H) (K := (.jnk, σ[i]) :: K) s.len (SI.jnk s.si)).swap (List.getElem?_eq_getElem c) (List.getElem?_eq_getElem hs)
    exact ⟨this.len, this.si.drop⟩
  · rw [List.set_eq_of_length_le (by omega)]
    exact s
theorem Stt.forget {H : Hp} {K : List Ent} {e : EnvD} {σ : L2.St} (s : Stt H K e σ) : ∀ vs, Stt H K (wipeE e vs) σ
  | [] => s
  | v :: vs => (Stt.forget s vs).forget1 v
theorem sok_wp {W : WX} {P : List Nat} {t : TS} {f : Sv} (vs : List Nat) (h : SOk W P t f) : SOk W P t (sWp vs f) := by
  intro env σ K H Dn s m
  refine h env σ K H Dn s ?_
  unfold sWp at m
  cases e : f env with
  | no => rw [e] at m; exact m
  | er x e1 => rw [e] at m; exact m
  | ok o e1 =>
    rw [e] at m
    have m : OPost P K σ Dn (wipeE e1 vs) o := m
    show OPost P K σ Dn e1 o
    cases o with
    | nx => exact fun σ' H' p s => m σ' H' p (s.forget vs)
    | bk => exact fun σ' H' p s => m σ' H' p (s.forget vs)
    | ct => exact fun σ' H' p s => m σ' H' p (s.forget vs)
    | rt d => exact fun v σ' H' p s => m v σ' H' p (s.forget vs)
variable {X : Cx} {W : WX} {P : List Nat}
theorem bj_wp {s : List Stmt} {f : Sv} (vs : List Nat) (h : BJ X W P s f) : BJ X W P s (sWp vs f) := by
  obtain ⟨t, p, q⟩ := h
  exact ⟨t, p, sok_wp vs q⟩
theorem sj_wp {s : Stmt} {f : Sv} (vs : List Nat) (h : SJ X W P s f) : SJ X W P s (sWp vs f) := by
  obtain ⟨t, p, q⟩ := h
  exact ⟨t, p, sok_wp vs q⟩
end VS
set_option Elab.async false
set_option linter.all false
set_option maxRecDepth 100000
set_option maxHeartbeats 2000000
namespace VS
open PySem PySem.Spec PyProof.Rows L2 He
theorem ExD.says {K : PySem.W.Frag} {prog : Program} {d : ExD} (e : exW K d = d.val) (c : d.ok K prog.main.file = true) (top : (prog.main.scope.names.lookup ("super" : Str)).isSome = false) :
    ∃ cc cda kV doc pm an ct, SxT prog K (ga K d.x) (fiA K d.x) cc cda (PySem.W.fnX d.name d.qual d.params d.body d.scope [(("__class__" : Str), cc)] .none kV doc pm an (.ref cda) ct) d.pn d.fld := by
  obtain ⟨c1, c⟩ := ba c
  obtain ⟨c2, c⟩ := ba c
  obtain ⟨c3, c4⟩ := ba c
  obtain ⟨c1, a5⟩ := ba c1
  obtain ⟨c1, a4⟩ := ba c1
  obtain ⟨c1, a3⟩ := ba c1
  obtain ⟨a1, a2⟩ := ba c1
  obtain ⟨c2, b5⟩ := ba c2
  obtain ⟨c2, b4⟩ := ba c2
  obtain ⟨c2, b3⟩ := ba c2
  obtain ⟨b1, b2⟩ := ba c2
  obtain ⟨c4, d4⟩ := ba c4
  obtain ⟨c4, d3⟩ := ba c4
  obtain ⟨d1, d2⟩ := ba c4
  unfold exW at e
  cases q : K.lookup (fiA K d.x) with
  | none => rw [q] at c3; cases c3
  | some ob =>
    obtain ⟨ocl, odi, dta, osl⟩ := ob
    rw [q] at c3 e
    cases dta with
    | func fd =>
      obtain ⟨n1, n2, n3, n4, n5, n6, n7, n8, n9, n10, n11, n12, n13, n14, n15⟩ := fd
      have e2 : (some (n1, n2, n3, n4, n5) : ExV) = some (d.name, d.qual, d.params, .stmts d.body, d.scope) := e
      simp only [Option.some.injEq, Prod.mk.injEq] at e2
      obtain ⟨h1, h2, h3, h4, h5⟩ := e2
      subst h1 h2 h3 h4 h5
      cases n13 with
      | ref cda => ?_
      | _ => cases c3
      cases n8 with
      | none => ?_
      | _ => first | (cases n7 with | nil => cases c3 | cons p r => obtain ⟨n, cc⟩ := p; cases r <;> cases c3)
      cases n7 with
      | nil => cases c3
      | cons p r => ?_
      cases r with
      | cons => obtain ⟨n, cc⟩ := p; cases c3
      | nil => ?_
      obtain ⟨n, cc⟩ := p
      have c3 : ((decide (n = "__class__") && cellRef K cc (ga K d.x) && fileIn K prog.main.file cda && PySem.W.codeIn K (.ref cda) d.qual) && (decide (n6 = mainGlobals) && decide (n15 = builtinsNs))) = true := c3
      · skip
        obtain ⟨f1, f2⟩ := ba c3
        obtain ⟨f1, g4⟩ := ba f1
        obtain ⟨f1, g3⟩ := ba f1
        obtain ⟨g1, g2⟩ := ba f1
        obtain ⟨g5, g6⟩ := ba f2
        have g1 := of_decide_eq_true g1
        have g5' := of_decide_eq_true g5
        have g6' := of_decide_eq_true g6
        subst g1 g5' g6'
        refine ⟨cc, cda, n9, n10, n11, n12, n14, ⟨clsOk_ok a1, eqO_ok a2, of_decide_eq_true a3, of_decide_eq_true a4, a5⟩, eqO_ok b1, eqO_ok b2, eqO_ok b3, eqO_ok b4, of_decide_eq_true b5, ⟨_, _, _, q⟩, g4, rfl, ?_, rfl, ?_, eqO_ok d1, of_decide_eq_true d2, of_decide_eq_true d3, eqO_ok d4, rfl, rfl, top⟩
        · unfold fileIn at g3
          split at g3
          · rename_i ccl cdd vs ccs hl
            split at g3
            · rename_i f t hv
              exact ⟨ccl, cdd, vs, ccs, f, t, hl, hv, g3⟩
            · cases g3
          · cases g3
        · unfold cellRef at g2
          split at g2
          · rename_i cl cld D csl hl
            have := beq_iff_eq.mp g2
            subst this
            exact ⟨cl, cld, csl, hl⟩
          · cases g2
    | _ => cases c3
/-! constants, classes of errors -/
section
variable {v : HV} {K : PySem.W.Frag} (c : obsV v K = valV v)
include c
theorem sv_d : SaysD v.fa v.fn K := congrArg (fun z : AlV => z.1) c
theorem sv_nl : noList K = true := (ba (congrArg (fun z : AlV => z.2.2.2) c)).2
theorem sv_b : (((v.pr.all fun d => d.ok K) = true ∧ (v.ex.all fun d => d.ok K v.file) = true) ∧ v.con.all (conB K) = true) ∧ v.kn.all (kitN K v.base v.cl) = true := by
  have := (ba (ba (congrArg (fun z : AlV => z.2.2.2) c)).1).1
  obtain ⟨h, h4⟩ := ba this
  obtain ⟨h, h3⟩ := ba h
  obtain ⟨h1, h2⟩ := ba h
  exact ⟨⟨⟨h1, h2⟩, h3⟩, h4⟩
theorem sv_pr (i : Nat) {d : PrD} (h : v.pr[i]? = some d) : ∃ pp gg, PropOf K (ga K d.cls) d.m pp gg ∧ ∃ fd, FunD K d.name d.qual d.params d.body d.scope [] [] gg fd := by
  have e := at_map i (congrArg (fun z : AlV => z.2.1) c) h
  have o := List.all_eq_true.mp (sv_b c).1.1.1 d (List.mem_of_getElem? h)
  exact ⟨_, _, PrD.prop o, PrD.fun_ e o⟩
theorem sv_ex (i : Nat) {d : ExD} {prog : Program} (hf : prog.main.file = v.file) (top : (prog.main.scope.names.lookup ("super" : Str)).isSome = false) (h : v.ex[i]? = some d) :
    ∃ cc cda kV doc pm an ct, SxT prog K (ga K d.x) (fiA K d.x) cc cda (PySem.W.fnX d.name d.qual d.params d.body d.scope [(("__class__" : Str), cc)] .none kV doc pm an (.ref cda) ct) d.pn d.fld := by
  have e := at_map i (congrArg (fun z : AlV => z.2.2.1) c) h
  have o := List.all_eq_true.mp (sv_b c).1.1.2 d (List.mem_of_getElem? h)
  exact ExD.says e (by rw [hf]; exact o) top
theorem sv_con (i : Nat) {a f : Str} {x : Int} (h : v.con[i]? = some (a, f, x)) : ∃ u, Con K (ga K a) f (.int x) u :=
  conB_ok (List.all_eq_true.mp (sv_b c).1.2 _ (List.mem_of_getElem? h))
theorem sv_kn (i : Nat) {x : Str} (h : v.kn[i]? = some x) : ExcC K (ga K x) ∧ XfC K (ga K x) ∧ (∀ y ∈ v.cl, PySem.W.kitOne K (.ref (ga K x)) (.ref (ga K y)) = some (decide (y = x))) ∧ PySem.W.kitOne K (.ref (ga K x)) (.type "ValueError") = some true ∧ PySem.W.exmOne K (.ref (ga K x)) (.ref (ga K v.base)) = some true := by
  have := List.all_eq_true.mp (sv_b c).2 _ (List.mem_of_getElem? h)
  unfold kitN at this
  obtain ⟨h, h4⟩ := ba this
  obtain ⟨h, h3⟩ := ba h
  obtain ⟨h1, h2⟩ := ba h
  obtain ⟨e1, e2⟩ := excB_ok h1
  exact ⟨e1, e2, fun y hy => of_decide_eq_true (List.all_eq_true.mp h2 y hy), of_decide_eq_true h3, of_decide_eq_true h4⟩
theorem sv_ins (i : Nat) {x : Str} (h : v.ins[i]? = some x) (k : Cls K (ga K x)) : C8.InsC K (ga K x) := insB_ok (List.all_eq_true.mp (ba (ba (congrArg (fun z : AlV => z.2.2.2) c)).1).2 _ (List.mem_of_getElem? h)) k
end
end VS
set_option Elab.async false
set_option linter.all false
set_option maxRecDepth 100000
set_option maxHeartbeats 2000000
namespace VS
open PySem PySem.Spec PyProof.Rows L2 He
theorem law_sp {K : PySem.W.Frag} {g : Fv} {H : Hp} {a : Addr} {ns : List Int} {fin : EnvD} (nl : noList K = true) (hS : SqL K H a (ns.map V.int)) (h : g [.scr ns] = .ok (.atm (.bl true)) fin) :
    spD 1 g [.ref a] H (fun v _ => v = .bl true) fun _ _ _ => False := by
  rcases hS with hS | ⟨o, its, n, e, hc, _⟩
  · refine ⟨rfl, [.scr ns], [], rfl, ⟨H, [], ⟨[], [], rfl, ?_, rfl⟩, .nil, (fun b hb => absurd hb (by simp)), fun b o e => e⟩, ?_⟩
    · unfold Rep
      exact ⟨a, rfl, hS, rfl⟩
    · rw [h]
      exact fun v H' s => s.pk.atm
  · exact absurd hc (noList_ok nl e)
theorem walk_ofV {l : PySem.W.OpenLaw} {n k : Nat} {q : Program} {loose : List Str} {XP : (Str → Option Value) → Heap → Prop} {YP : World → Heap → Prop} {d : DefRec} {x : Str}
    (hn : l.most = some n) (hn2 : n ≤ sizeLine) (hdf : d.params.defaults = []) (hr : Room k callerA)
    (F : ∀ (w : World) (mg : Str → Option Value) (fa : Addr) (h : Heap), YP w h → h.Ns mainGlobals mg → mg d.name = some (.ref fa) →
      ∃ (K : PySem.W.Frag) (fd : FuncData) (g : Fv), K.In h ∧ noList K = true ∧ (∀ (s : Shared) (u : Value), BindsTo s fd ⟨[u], []⟩ [(x, u)]) ∧
        (∀ ns : List Int, ns.length ≤ n → ∃ fin, g [.scr ns] = .ok (.atm (.bl true)) fin) ∧
        ∀ base : Heap, K.In base → base.Ns mainGlobals mg → FnOk l.prog w K mg base (L2.CX l.prog w) k fa fd [x] (spD 1 g)) :
    PySem.W.WalkO q loose XP YP l.row.toRowW d [] (fun f vs => PySem.call f vs) := by
  refine Att.attach_call hn hdf fun w s₀ s₁ mg mb fa o pm cd doc a vs ns G Y ho hd hcd hmg hobj hints hlen hg => ?_
  obtain ⟨K, fd, g, KX, nl, hb, hsp, hF⟩ := F w mg fa _ Y G.T.g hmg
  obtain ⟨fin, hfin⟩ := hsp ns hlen
  exact law_call KX G.T.g G.T.b G.T.builtins G.T.nolimit hg hobj hints (Nat.le_trans hlen hn2) hr hF hb (fun H hO hS => law_sp nl hS hfin) fun H e s' ⟨_, _, _, _, _, _, _, _, _, _, _, _, z⟩ => z
end VS
set_option Elab.async false
set_option linter.all false
set_option maxRecDepth 100000
set_option maxHeartbeats 2000000
namespace VS
open PySem PySem.Spec PyProof.Rows L2
/-! ### the D-level runs, step by step -/

def kSeq (f : Sv) : M Out → M Out
  | .ok .nx e => f e
  | m => m
def kEx : M R → M Out
  | .ok _ e => .ok .nx e
  | .er x e => .er x e
  | .no => .no
def kRt : M R → M Out
  | .ok (.val d) e => .ok (.rt d) e
  | .er x e => .er x e
  | _ => .no
def kIf (f g : Sv) : M Bool → M Out
  | .ok true e => f e
  | .ok false e => g e
  | .er x e => .er x e
  | .no => .no
def kAs2 : Option EnvD → M Out
  | some e => .ok .nx e
  | none => .no
def kAs (g : Gv) : M R → M Out
  | .ok (.val d) e => kAs2 (g d e)
  | .er x e => .er x e
  | _ => .no
def kFor (g : Gv) (b : Sv) : M (List D) → M Out
  | .ok ds e => forD g b ds e
  | .er x e => .er x e
  | .no => .no
def kV : Option D → EnvD → M R
  | some z, e => .ok (.val z) e
  | none, _ => .no
def kOp3 (h : D → D → Option D) : Option D → Option D → EnvD → M R
  | some x, some y, e => kV (h x y) e
  | _, _, _ => .no
def kOp2 (h : D → D → Option D) (ra : R) : M R → M R
  | .ok rb e => kOp3 h (peek ra e) (peek rb e) e
  | .er x e => .er x e
  | .no => .no
def kOp1 (h : D → D → Option D) (b : Ev) : M R → M R
  | .ok ra e => kOp2 h ra (b e)
  | .er x e => .er x e
  | .no => .no
def kU2 (h : D → Option D) : Option D → EnvD → M R
  | some x, e => kV (h x) e
  | none, _ => .no
def kU (h : D → Option D) : M R → M R
  | .ok r e => kU2 h (peek r e) e
  | .er x e => .er x e
  | .no => .no
def kCB2 (h : List D → Option D) : Option (List D) → EnvD → M R
  | some ds, e => kV (h ds) e
  | none, _ => .no
def kCB (h : List D → Option D) : M (List R) → M R
  | .ok rs e => kCB2 h (peeks rs e) e
  | .er x e => .er x e
  | .no => .no
def kTb2 : Option D → EnvD → M Bool
  | some (.atm (.bl b)), e => .ok b e
  | _, _ => .no
def kTb : M R → M Bool
  | .ok r e => kTb2 (peek r e) e
  | .er x e => .er x e
  | .no => .no
def kNt : M Bool → M Bool
  | .ok b e => .ok (!b) e
  | m => m
def kAn (u : Tv) : M Bool → M Bool
  | .ok true e => u e
  | m => m
def kOrr (u : Tv) : M Bool → M Bool
  | .ok false e => u e
  | m => m
def kEIf (a b : Ev) : M Bool → M R
  | .ok true e => a e
  | .ok false e => b e
  | .er x e => .er x e
  | .no => .no
def kENt : M Bool → M R
  | .ok b e => .ok (.val (.atm (.bl !b))) e
  | .er x e => .er x e
  | .no => .no
def kCons2 (r : R) : M (List R) → M (List R)
  | .ok rs e => .ok (r :: rs) e
  | m => m
def kCons (as : Av) : M R → M (List R)
  | .ok r e => kCons2 r (as e)
  | .er x e => .er x e
  | .no => .no
def kDis2 (mk : List D → D) : Option (List D) → EnvD → M R
  | some ds, e => if ds.length ≤ 16777216 then .ok (.val (mk ds)) e else .no
  | none, _ => .no
def kDis (mk : List D → D) : M (List R) → M R
  | .ok rs e => kDis2 mk (vals rs) e
  | .er x e => .er x e
  | .no => .no
def kFrz : M R → M R
  | .ok (.val d) e => .ok (.val (fz d)) e
  | .er x e => .er x e
  | _ => .no
def kCall3 (rs : List R) (e : EnvD) : M D → M R
  | .ok d fin => .ok (.val d) (putS rs fin e)
  | .er x _ => .er x e
  | .no => .no
def kCall2 (n : Nat) (h : Fv) (rs : List R) : Option (List D × EnvD) → M R
  | some (ds, e) => if ds.length = n then kCall3 rs e (h ds) else .no
  | none => .no
def kCall (n : Nat) (h : Fv) : M (List R) → M R
  | .ok rs e => kCall2 n h rs (takeS rs e)
  | .er x e => .er x e
  | .no => .no
def kMut4 (i : Nat) : Option (List D × D) → EnvD → M R
  | some (ds, z), e => .ok (.val z) (e.set i (.lst true ds))
  | none, _ => .no
def kMut3 (i : Nat) (h : List D → List D → Option (List D × D)) : Option D → Option (List D) → EnvD → M R
  | some (.lst true ds), some as, e => kMut4 i (h ds as) e
  | _, _, _ => .no
def kMut2 (i : Nat) (h : List D → List D → Option (List D × D)) : M (List R) → M R
  | .ok rs e => kMut3 i h e[i]? (vals rs) e
  | .er x e => .er x e
  | .no => .no
def kMut (i : Nat) (h : List D → List D → Option (List D × D)) (as : Av) : Option D → EnvD → M R
  | some (.lst true _), e => kMut2 i h (as e)
  | _, _ => .no
def kSub4 (i : Nat) (d : D) (ds : List D) : Option Nat → EnvD → M Out
  | some j, e => .ok .nx (e.set i (.lst true (ds.set j d)))
  | none, _ => .no
def kSub3 (i : Nat) (d : D) : Option D → Option D → EnvD → M Out
  | some (.lst true ds), some (.atm (.int k)), e => kSub4 i d ds (ixN ds.length k) e
  | _, _, _ => .no
def kSub2 (i : Nat) (d : D) : M R → M Out
  | .ok ri e => kSub3 i d e[i]? (peek ri e) e
  | .er x e => .er x e
  | .no => .no
def kSub1 (i : Nat) (a : Ev) (d : D) : Option D → EnvD → M Out
  | some (.lst true _), e => kSub2 i d (a e)
  | _, _ => .no
def kSub (i : Nat) (a : Ev) : M R → M Out
  | .ok (.val d) e => kSub1 i a d e[i]? e
  | .er x e => .er x e
  | _ => .no
def kFw2 (i : Nat) (C : Addr) (f : Str) (d : D) : Option D → EnvD → M Out
  | some (.ins true c ns ds), e => if decide (c = C) && decide (ns.length < 1000) && !ns.contains f then .ok .nx (e.set i (.ins true c (ns ++ [f]) (ds ++ [fz d]))) else .no
  | _, _ => .no
def kFw (i : Nat) (C : Addr) (f : Str) : M R → M Out
  | .ok (.val d) e => kFw2 i C f d e[i]? e
  | .er x e => .er x e
  | _ => .no
def kProp3 (ro : R) (e : EnvD) : M D → M R
  | .ok d fin => .ok (.val d) (putS [ro] fin e)
  | _ => .no
def kProp2 (C : Addr) (h : Fv) (ro : R) : Option (List D × EnvD) → M R
  | some ([.ins own c ns ds], e) => if c = C then kProp3 ro e (h [.ins own c ns ds]) else .no
  | _ => .no
def kProp (C : Addr) (h : Fv) : M R → M R
  | .ok ro e => kProp2 C h ro (takeS [ro] e)
  | .er x e => .er x e
  | .no => .no
def kMeth3 (n : Nat) (h : Fv) (ro : R) (rs : List R) : Option (List D × EnvD) → M R
  | some (ds, e) => if ds.length = n then kCall3 (ro :: rs) e (h ds) else .no
  | none => .no
def kMeth2 (n : Nat) (h : Fv) (ro : R) : M (List R) → M R
  | .ok rs e => kMeth3 n h ro rs (takeS (ro :: rs) e)
  | .er x e => .er x e
  | .no => .no
def kMeth1 (C : Addr) (m : Str) (n : Nat) (h : Fv) (as : Av) (ro : R) : Option D → EnvD → M R
  | some (.ins _ c ns _), e => if decide (c = C) && !ns.contains m then kMeth2 n h ro (as e) else .no
  | _, _ => .no
def kMeth (C : Addr) (m : Str) (n : Nat) (h : Fv) (as : Av) : M R → M R
  | .ok ro e => kMeth1 C m n h as ro (peek ro e) e
  | .er x e => .er x e
  | .no => .no
def kMake3 (rs : List R) (e : EnvD) : M D → M R
  | .no => .no
  | .er x _ => .er x e
  | .ok (.atm .non) (d :: fin) => .ok (.val d) (putS rs fin e)
  | _ => .no
def kMake2 (C : Addr) (n : Nat) (h : Fv) (rs : List R) : Option (List D × EnvD) → M R
  | some (ds, e) => if ds.length + 1 = n then kMake3 rs e (h (.ins true C [] [] :: ds)) else .no
  | none => .no
def kMake (C : Addr) (n : Nat) (h : Fv) : M (List R) → M R
  | .ok rs e => kMake2 C n h rs (takeS rs e)
  | .er x e => .er x e
  | .no => .no
def kISeq : M R → M (List D)
  | .ok (.val (.lst _ ds)) e => if fzns ds then .ok ds e else .no
  | .ok (.val (.tup ds)) e => if fzns ds then .ok ds e else .no
  | .ok (.val (.scr ns)) e => .ok (ns.map fun n => .atm (.int n)) e
  | .er x e => .er x e
  | _ => .no
def kIEn : M R → M (List D)
  | .ok (.val (.lst _ ds)) e => if fzns ds then .ok (enL ds) e else .no
  | .er x e => .er x e
  | _ => .no
def kRg2 : Option (List D) → EnvD → M (List D)
  | some [.atm (.int n)], e => if decide (-(2 ^ 62) ≤ n) && decide (n < 2 ^ 62) then .ok (rngD 0 n.toNat) e else .no
  | _, _ => .no
def kRg : M (List R) → M (List D)
  | .ok rs e => kRg2 (peeks rs e) e
  | .er x e => .er x e
  | .no => .no
def kLc2 : M (List D) → M R
  | .ok acc e => .ok (.val (.lst true acc)) e
  | .er x e => .er x e
  | .no => .no
def kLc (g : Gv) (t : Tv) (a : Ev) (vs : List Nat) : M (List D) → M R
  | .ok ds e => kLc2 (lcD g t a vs ds [] (wipeE e vs))
  | .er x e => .er x e
  | .no => .no
def kOs2 : Option D → EnvD → M (Option Int)
  | some (.atm (.int i)), e => .ok (some i) e
  | _, _ => .no
def kOs : M R → M (Option Int)
  | .ok r e => kOs2 (peek r e) e
  | .er x e => .er x e
  | .no => .no
def kSl4 (lo hi : Option Int) : Option D → EnvD → M R
  | some d, e => kV (gSl lo hi d) e
  | none, _ => .no
def kSl3 (r : R) (lo : Option Int) : M (Option Int) → M R
  | .ok hi e => kSl4 lo hi (peek r e) e
  | .er x e => .er x e
  | .no => .no
def kSl2 (r : R) (fh : Ov) : M (Option Int) → M R
  | .ok lo e => kSl3 r lo (fh e)
  | .er x e => .er x e
  | .no => .no
def kSl (fl fh : Ov) : M R → M R
  | .ok r e => kSl2 r fh (fl e)
  | .er x e => .er x e
  | .no => .no
def kSlot (f : D → M R) : Option D → M R
  | some d => if isJ d then .no else f d
  | none => .no
section
variable {F : D → M R} {v : V} {h : D → D → Option D} {h1 : D → Option D} {hl : List D → Option D} {hf : Fv} {hm : List D → List D → Option (List D × D)} {mk : List D → D} {n : Nat} {vs : List Nat} {C cc aa da : Addr} {fl m : Str} {o bb : Bool} {nss : List Str} {nsi : List Int} {ex : Exn} {fin : List D} {kk : Int} {fl1 fh : Ov} {lo hi : Option Int} {f f' : Sv} {g : Gv} {a b c : Ev} {t u : Tv} {as : Av} {e : EnvD} {i : Nat} {fi : Iv} {d : D} {r ra rb : R} {rs : List R} {x y : D} {ds : List D}
@[simp] theorem sSkip_e : sSkip e = .ok .nx e := (rfl)
@[simp] theorem sSeq_e : sSeq f f' e = kSeq f' (f e) := by unfold sSeq kSeq; rcases f e with _ | ⟨_, _⟩ | ⟨(_ | _ | _ | _), _⟩ <;> rfl
@[simp] theorem sEx_e : sEx a e = kEx (a e) := by unfold sEx kEx; cases a e <;> rfl
@[simp] theorem sRt_e : sRt a e = kRt (a e) := by unfold sRt kRt; rcases a e with _ | ⟨_, _⟩ | ⟨(_ | _), _⟩ <;> rfl
@[simp] theorem sIf_e : sIf t f f' e = kIf f f' (t e) := by unfold sIf kIf; rcases t e with _ | ⟨_, _⟩ | ⟨(_ | _), _⟩ <;> rfl
@[simp] theorem sAs_e : sAs g a e = kAs g (a e) := by unfold sAs kAs kAs2; rcases a e with _ | ⟨_, _⟩ | ⟨(_ | _), _⟩ <;> rfl
@[simp] theorem sFor_e : sFor fi g f e = kFor g f (fi e) := by unfold sFor kFor; cases fi e <;> rfl
@[simp] theorem forD_nil : forD g f [] e = .ok .nx e := (rfl)
@[simp] theorem gN_e : gN i d e = if i < e.length then some (e.set i d) else none := (rfl)
@[simp] theorem eVar_e : eVar i e = kSlot (fun _ => .ok (.slot i) e) e[i]? := by unfold eVar kSlot; cases e[i]? <;> rfl
@[simp] theorem eCp_e : eCp i e = kSlot (fun d => if fzn d then .ok (.val d) e else .no) e[i]? := by unfold eCp kSlot; cases e[i]? with | none => rfl | some d => show (if (isJ d || !fzn d) = true then M.no else M.ok (R.val d) e) = if isJ d = true then M.no else (if fzn d = true then M.ok (R.val d) e else M.no); cases isJ d <;> cases fzn d <;> rfl
@[simp] theorem eFz_e : eFz i e = kSlot (fun d => .ok (.val (fz d)) (e.set i (fz d))) e[i]? := by unfold eFz kSlot; cases e[i]? <;> rfl
@[simp] theorem eMv_e : eMv i e = kSlot (fun d => .ok (.val d) (e.set i .jnk)) e[i]? := by unfold eMv kSlot; cases e[i]? <;> rfl
@[simp] theorem kSlot_s : kSlot F (some d) = if isJ d then .no else F d := (rfl)
@[simp] theorem eC_e : eC v e = .ok (.val (.atm v)) e := (rfl)
@[simp] theorem eOp_e : eOp h a b e = kOp1 h b (a e) := by
  unfold eOp kOp1
  cases a e with
  | no => rfl
  | er x e => rfl
  | ok ra e1 =>
    show (b e1).bind _ = kOp2 h ra (b e1)
    unfold kOp2
    cases b e1 with
    | no => rfl
    | er x e => rfl
    | ok rb e2 =>
      show (match peek ra e2, peek rb e2 with
        | some x, some y => (lift (h x y) e2).bind fun z e3 => M.ok (R.val z) e3
        | _, _ => .no) = kOp3 h (peek ra e2) (peek rb e2) e2
      cases peek ra e2 <;> cases peek rb e2 <;> first | rfl | skip
      rename_i x y
      show (lift (h x y) e2).bind _ = kV (h x y) e2
      cases h x y <;> rfl
@[simp] theorem tBl_e : tBl a e = kTb (a e) := by
  unfold tBl kTb
  cases a e with
  | no => rfl
  | er x e => rfl
  | ok r e1 =>
    show (match peek r e1 with
      | some (.atm (.bl b)) => M.ok b e1
      | _ => .no) = kTb2 (peek r e1) e1
    unfold kTb2
    rcases peek r e1 with _ | d
    · rfl
    · cases d <;> first | rfl | (rename_i v; cases v <;> rfl)
@[simp] theorem tNt_e : tNt t e = kNt (t e) := by unfold tNt kNt; cases t e <;> rfl
@[simp] theorem tAn_e : tAn t u e = kAn u (t e) := by unfold tAn kAn; rcases t e with _ | ⟨_, _⟩ | ⟨(_ | _), _⟩ <;> rfl
@[simp] theorem tOrr_e : tOrr t u e = kOrr u (t e) := by unfold tOrr kOrr; rcases t e with _ | ⟨_, _⟩ | ⟨(_ | _), _⟩ <;> rfl
@[simp] theorem eIf_e : eIf t a b e = kEIf a b (t e) := by unfold eIf kEIf; rcases t e with _ | ⟨_, _⟩ | ⟨(_ | _), _⟩ <;> rfl
@[simp] theorem eAn_e : eAn a b e = kEIf b (eC (.bl false)) (tBl a e) := by unfold eAn kEIf; rcases tBl a e with _ | ⟨_, _⟩ | ⟨(_ | _), _⟩ <;> rfl
@[simp] theorem eOr_e : eOr a b e = kEIf (eC (.bl true)) b (tBl a e) := by unfold eOr kEIf; rcases tBl a e with _ | ⟨_, _⟩ | ⟨(_ | _), _⟩ <;> rfl
@[simp] theorem eNt_e : eNt a e = kENt (tBl a e) := by unfold eNt kENt; cases tBl a e <;> rfl
@[simp] theorem aNil_e : aNil e = .ok [] e := (rfl)
@[simp] theorem aCons_e : aCons a as e = kCons as (a e) := by
  unfold aCons kCons
  cases a e with
  | no => rfl
  | er x e => rfl
  | ok r e1 =>
    show (as e1).bind _ = kCons2 r (as e1)
    unfold kCons2
    cases as e1 <;> rfl
@[simp] theorem eDis_e : eDis mk as e = kDis mk (as e) := by
  unfold eDis kDis
  cases as e with
  | no => rfl
  | er x e => rfl
  | ok rs e1 =>
    show (match vals rs with
      | some ds => if ds.length ≤ 16777216 then M.ok (R.val (mk ds)) e1 else .no
      | none => .no) = kDis2 mk (vals rs) e1
    cases vals rs <;> rfl
@[simp] theorem eU_e : eU h1 a e = kU h1 (a e) := by
  unfold eU kU
  cases a e with
  | no => rfl
  | er x e => rfl
  | ok r e1 =>
    show (match peek r e1 with
      | some x => (lift (h1 x) e1).bind fun z e2 => M.ok (R.val z) e2
      | none => .no) = kU2 h1 (peek r e1) e1
    cases peek r e1 with
    | none => rfl
    | some x =>
      show (lift (h1 x) e1).bind _ = kV (h1 x) e1
      cases h1 x <;> rfl
@[simp] theorem eCB_e : eCB hl as e = kCB hl (as e) := by
  unfold eCB kCB
  cases as e with
  | no => rfl
  | er x e => rfl
  | ok rs e1 =>
    show (match peeks rs e1 with
      | some ds => (lift (hl ds) e1).bind fun z e2 => M.ok (R.val z) e2
      | none => .no) = kCB2 hl (peeks rs e1) e1
    cases peeks rs e1 with
    | none => rfl
    | some ds =>
      show (lift (hl ds) e1).bind _ = kV (hl ds) e1
      cases hl ds <;> rfl
@[simp] theorem eFrz_e : eFrz a e = kFrz (a e) := by unfold eFrz kFrz; rcases a e with _ | ⟨_, _⟩ | ⟨(_ | _), _⟩ <;> rfl
@[simp] theorem eCall_e : eCall n hf as e = kCall n hf (as e) := by
  unfold eCall kCall
  cases as e with
  | no => rfl
  | er x e => rfl
  | ok rs e1 =>
    show (match takeS rs e1 with
      | some (ds, e2) => if ds.length = n then match hf ds with
        | .no => .no
        | .er x _ => .er x e2
        | .ok d fin => M.ok (R.val d) (putS rs fin e2)
        else .no
      | none => .no) = kCall2 n hf rs (takeS rs e1)
    rcases takeS rs e1 with _ | ⟨ds, e2⟩
    · rfl
    · show (if ds.length = n then _ else _) = if ds.length = n then _ else _
      split
      · cases hf ds <;> rfl
      · rfl
@[simp] theorem eMut_e : eMut i hm as e = kMut i hm as e[i]? e := by
  unfold eMut kMut
  rcases e[i]? with _ | (_ | _ | ⟨(_ | _), _⟩ | _ | _ | _ | _ | _ | _ | _ | _) <;> first | rfl | skip
  show (as e).bind _ = kMut2 i hm (as e)
  unfold kMut2
  cases as e with
  | no => rfl
  | er x e => rfl
  | ok rs e1 =>
    show (match e1[i]?, vals rs with
      | some (.lst true ds), some as => match hm ds as with
        | some (ds', z) => M.ok (R.val z) (e1.set i (.lst true ds'))
        | none => .no
      | _, _ => .no) = kMut3 i hm e1[i]? (vals rs) e1
    unfold kMut3
    rcases e1[i]? with _ | (_ | _ | ⟨(_ | _), _⟩ | _ | _ | _ | _ | _ | _ | _ | _) <;> first | rfl | skip
    rename_i ds
    cases vals rs with
    | none => rfl
    | some as =>
      show (match hm ds as with
        | some (ds', z) => M.ok (R.val z) (e1.set i (.lst true ds'))
        | none => .no) = kMut4 i (hm ds as) e1
      cases hm ds as <;> rfl
@[simp] theorem sSub_e : sSub i a b e = kSub i a (b e) := by
  unfold sSub kSub
  rcases b e with _ | ⟨_, _⟩ | ⟨(d | _), e1⟩ <;> first | rfl | skip
  show (match e1[i]? with
    | some (.lst true _) => (a e1).bind fun ri e2 => match e2[i]?, peek ri e2 with
      | some (.lst true ds), some (.atm (.int k)) => match ixN ds.length k with
        | some j => M.ok Out.nx (e2.set i (.lst true (ds.set j d)))
        | none => .no
      | _, _ => .no
    | _ => .no) = kSub1 i a d e1[i]? e1
  unfold kSub1
  rcases e1[i]? with _ | (_ | _ | ⟨(_ | _), _⟩ | _ | _ | _ | _ | _ | _ | _ | _) <;> first | rfl | skip
  show (a e1).bind _ = kSub2 i d (a e1)
  unfold kSub2
  cases a e1 with
  | no => rfl
  | er x e => rfl
  | ok ri e2 =>
    show (match e2[i]?, peek ri e2 with
      | some (.lst true ds), some (.atm (.int k)) => match ixN ds.length k with
        | some j => M.ok Out.nx (e2.set i (.lst true (ds.set j d)))
        | none => .no
      | _, _ => .no) = kSub3 i d e2[i]? (peek ri e2) e2
    unfold kSub3
    rcases e2[i]? with _ | (_ | _ | ⟨(_ | _), ds⟩ | _ | _ | _ | _ | _ | _ | _ | _) <;> first | rfl | skip
    rcases peek ri e2 with _ | (_ | (_ | _ | _ | _ | _ | _ | _ | _) | _ | _ | _ | _ | _ | _ | _ | _ | _) <;> first | rfl | skip
    rename_i k
    show (match ixN ds.length k with
        | some j => M.ok Out.nx (e2.set i (.lst true (ds.set j d)))
        | none => .no) = kSub4 i d ds (ixN ds.length k) e2
    cases ixN ds.length k <;> rfl
@[simp] theorem sFw_e : sFw i C fl a e = kFw i C fl (a e) := by
  unfold sFw kFw
  rcases a e with _ | ⟨_, _⟩ | ⟨(d | _), e1⟩ <;> first | rfl | skip
  show (match e1[i]? with
    | some (.ins true c ns ds) => if decide (c = C) && decide (ns.length < 1000) && !ns.contains fl then M.ok Out.nx (e1.set i (.ins true c (ns ++ [fl]) (ds ++ [fz d]))) else .no
    | _ => .no) = kFw2 i C fl d e1[i]? e1
  unfold kFw2
  rcases e1[i]? with _ | (_ | _ | _ | _ | ⟨(_ | _), _, _, _⟩ | _ | _ | _ | _ | _ | _) <;> rfl
@[simp] theorem eProp_e : eProp C hf a e = kProp C hf (a e) := by
  unfold eProp kProp
  cases a e with
  | no => rfl
  | er x e => rfl
  | ok ro e1 =>
    show (match takeS [ro] e1 with
      | some ([.ins own c ns ds], e2) => if c = C then match hf [.ins own c ns ds] with
        | .ok d fin => M.ok (R.val d) (putS [ro] fin e2)
        | _ => .no
        else .no
      | _ => .no) = kProp2 C hf ro (takeS [ro] e1)
    unfold kProp2
    split
    · rename_i own c ns ds e2 h
      split
      · cases hf [.ins own c ns ds] <;> rfl
      · rfl
    · rfl
@[simp] theorem eMeth_e : eMeth C m n hf a as e = kMeth C m n hf as (a e) := by
  unfold eMeth kMeth
  cases a e with
  | no => rfl
  | er x e => rfl
  | ok ro e1 =>
    show (match peek ro e1 with
      | some (.ins _ c ns _) => if decide (c = C) && !ns.contains m then (as e1).bind fun rs e2 => match takeS (ro :: rs) e2 with
        | some (ds, e3) => if ds.length = n then callEnd hf (ro :: rs) ds e3 else .no
        | none => .no
        else .no
      | _ => .no) = kMeth1 C m n hf as ro (peek ro e1) e1
    unfold kMeth1
    rcases peek ro e1 with _ | (_ | _ | _ | _ | ⟨_, c, ns, _⟩ | _ | _ | _ | _ | _ | _) <;> first | rfl | skip
    show (if (decide (c = C) && !ns.contains m) = true then _ else _) = if (decide (c = C) && !ns.contains m) = true then _ else _
    split
    · show (as e1).bind _ = kMeth2 n hf ro (as e1)
      unfold kMeth2
      cases as e1 with
      | no => rfl
      | er x e => rfl
      | ok rs e2 =>
        show (match takeS (ro :: rs) e2 with
          | some (ds, e3) => if ds.length = n then callEnd hf (ro :: rs) ds e3 else .no
          | none => .no) = kMeth3 n hf ro rs (takeS (ro :: rs) e2)
        rcases takeS (ro :: rs) e2 with _ | ⟨ds, e3⟩
        · rfl
        · show (if ds.length = n then _ else _) = if ds.length = n then _ else _
          split
          · unfold callEnd
            cases hf ds <;> rfl
          · rfl
    · rfl
@[simp] theorem eMake_e : eMake C n hf as e = kMake C n hf (as e) := by
  unfold eMake kMake
  cases as e with
  | no => rfl
  | er x e => rfl
  | ok rs e1 =>
    show (match takeS rs e1 with
      | some (ds, e2) => if ds.length + 1 = n then match hf (.ins true C [] [] :: ds) with
        | .no => .no
        | .er x _ => .er x e2
        | .ok (.atm .non) (d :: fin) => M.ok (R.val d) (putS rs fin e2)
        | _ => .no
        else .no
      | none => .no) = kMake2 C n hf rs (takeS rs e1)
    rcases takeS rs e1 with _ | ⟨ds, e2⟩
    · rfl
    · show (if ds.length + 1 = n then _ else _) = if ds.length + 1 = n then _ else _
      split
      · unfold kMake3
        rcases hf (.ins true C [] [] :: ds) with _ | ⟨_, _⟩ | ⟨(_ | (_ | _ | _ | _ | _ | _ | _ | _) | _ | _ | _ | _ | _ | _ | _ | _ | _), (_ | _)⟩ <;> rfl
      · rfl
@[simp] theorem fSeq_e : fSeq a e = kISeq (a e) := by unfold fSeq kISeq; rcases a e with _ | ⟨_, _⟩ | ⟨((_ | _ | _ | _ | _ | _ | _ | _ | _ | _ | _) | _), _⟩ <;> rfl
@[simp] theorem fEn_e : fEn a e = kIEn (a e) := by unfold fEn kIEn; rcases a e with _ | ⟨_, _⟩ | ⟨((_ | _ | _ | _ | _ | _ | _ | _ | _ | _ | _) | _), _⟩ <;> rfl
@[simp] theorem fR1_e : fR1 as e = kRg (as e) := by
  unfold fR1 kRg
  cases as e with
  | no => rfl
  | er x e => rfl
  | ok rs e1 =>
    show (match peeks rs e1 with
      | some [.atm (.int n)] => if decide (-(2 ^ 62) ≤ n) && decide (n < 2 ^ 62) then M.ok (rngD 0 n.toNat) e1 else .no
      | _ => .no) = kRg2 (peeks rs e1) e1
    unfold kRg2
    rcases peeks rs e1 with _ | (_ | ⟨d, (_ | ⟨d2, l⟩)⟩)
    · rfl
    · rfl
    · cases d <;> first | rfl | (rename_i v; cases v <;> rfl)
    · cases d <;> first | rfl | (rename_i v; cases v <;> rfl)
@[simp] theorem eLc_e : eLc fi g t a vs e = if e.length ≤ 64 then kLc g t a vs (fi e) else .no := by
  unfold eLc
  split
  · unfold kLc
    cases fi e with
    | no => rfl
    | er x e => rfl
    | ok ds e1 =>
      show (lcD g t a vs ds [] (wipeE e1 vs)).bind _ = kLc2 (lcD g t a vs ds [] (wipeE e1 vs))
      cases lcD g t a vs ds [] (wipeE e1 vs) <;> rfl
  · rfl
@[simp] theorem tT_e : tT e = .ok true e := (rfl)
@[simp] theorem peek_val : peek (.val d) e = some d := (rfl)
@[simp] theorem peek_slot : peek (.slot i) e = e[i]? := (rfl)
@[simp] theorem oNone_e : oNone e = .ok none e := (rfl)
@[simp] theorem oSome_e : oSome a e = kOs (a e) := by
  unfold oSome kOs
  cases a e with
  | no => rfl
  | er x e => rfl
  | ok r e1 =>
    show (match peek r e1 with
      | some (.atm (.int i)) => M.ok (some i) e1
      | _ => .no) = kOs2 (peek r e1) e1
    unfold kOs2
    rcases peek r e1 with _ | d
    · rfl
    · cases d <;> first | rfl | (rename_i v; cases v <;> rfl)
@[simp] theorem eSl_e : eSl a fl1 fh e = kSl fl1 fh (a e) := by
  unfold eSl kSl
  cases a e with
  | no => rfl
  | er x e => rfl
  | ok r e1 =>
    show (fl1 e1).bind _ = kSl2 r fh (fl1 e1)
    unfold kSl2
    cases fl1 e1 with
    | no => rfl
    | er x e => rfl
    | ok lo e2 =>
      show (fh e2).bind _ = kSl3 r lo (fh e2)
      unfold kSl3
      cases fh e2 with
      | no => rfl
      | er x e => rfl
      | ok hi e3 =>
        show (match peek r e3 with
          | some d => (lift (gSl lo hi d) e3).bind fun z e4 => M.ok (R.val z) e4
          | none => .no) = kSl4 lo hi (peek r e3) e3
        cases peek r e3 with
        | none => rfl
        | some d =>
          show (lift (gSl lo hi d) e3).bind _ = kV (gSl lo hi d) e3
          cases gSl lo hi d <;> rfl
@[simp] theorem isJ_atm : isJ (.atm v) = false := (rfl)
@[simp] theorem isJ_lst : isJ (.lst o ds) = false := (rfl)
@[simp] theorem isJ_tup : isJ (.tup ds) = false := (rfl)
@[simp] theorem isJ_ins : isJ (.ins o cc nss ds) = false := (rfl)
@[simp] theorem isJ_exo : isJ (.exo aa da cc nss ds) = false := (rfl)
@[simp] theorem isJ_scr : isJ (.scr nsi) = false := (rfl)
@[simp] theorem kSeq_nx : kSeq f (.ok .nx e) = f e := (rfl)
@[simp] theorem kSeq_rt : kSeq f (.ok (.rt d) e) = .ok (.rt d) e := (rfl)
@[simp] theorem kSeq_er : kSeq f (.er ex e) = .er ex e := (rfl)
@[simp] theorem kEx_ok : kEx (.ok r e) = .ok .nx e := (rfl)
@[simp] theorem kEx_er : kEx (.er ex e) = .er ex e := (rfl)
@[simp] theorem kRt_ok : kRt (.ok (.val d) e) = .ok (.rt d) e := (rfl)
@[simp] theorem kRt_er : kRt (.er ex e) = .er ex e := (rfl)
@[simp] theorem kIf_t : kIf f f' (.ok true e) = f e := (rfl)
@[simp] theorem kIf_f : kIf f f' (.ok false e) = f' e := (rfl)
@[simp] theorem kAs_ok : kAs g (.ok (.val d) e) = kAs2 (g d e) := (rfl)
@[simp] theorem kAs_er : kAs g (.er ex e) = .er ex e := (rfl)
@[simp] theorem kAs2_ok : kAs2 (some e) = .ok .nx e := (rfl)
@[simp] theorem kFor_ok : kFor g f (.ok ds e) = forD g f ds e := (rfl)
@[simp] theorem kV_ok : kV (some d) e = .ok (.val d) e := (rfl)
@[simp] theorem kOp3_ok : kOp3 h (some x) (some y) e = kV (h x y) e := (rfl)
@[simp] theorem kOp2_ok : kOp2 h ra (.ok rb e) = kOp3 h (peek ra e) (peek rb e) e := (rfl)
@[simp] theorem kOp1_ok : kOp1 h b (.ok ra e) = kOp2 h ra (b e) := (rfl)
@[simp] theorem kU2_ok : kU2 h1 (some x) e = kV (h1 x) e := (rfl)
@[simp] theorem kU_ok : kU h1 (.ok r e) = kU2 h1 (peek r e) e := (rfl)
@[simp] theorem kCB2_ok : kCB2 hl (some ds) e = kV (hl ds) e := (rfl)
@[simp] theorem kCB_ok : kCB hl (.ok rs e) = kCB2 hl (peeks rs e) e := (rfl)
@[simp] theorem kTb2_ok : kTb2 (some (.atm (.bl bb))) e = .ok bb e := (rfl)
@[simp] theorem kTb_ok : kTb (.ok r e) = kTb2 (peek r e) e := (rfl)
@[simp] theorem kNt_ok : kNt (.ok bb e) = .ok (!bb) e := (rfl)
@[simp] theorem kAn_t : kAn u (.ok true e) = u e := (rfl)
@[simp] theorem kAn_f : kAn u (.ok false e) = .ok false e := (rfl)
@[simp] theorem kOrr_f : kOrr u (.ok false e) = u e := (rfl)
@[simp] theorem kOrr_t : kOrr u (.ok true e) = .ok true e := (rfl)
@[simp] theorem kEIf_t : kEIf a b (.ok true e) = a e := (rfl)
@[simp] theorem kEIf_f : kEIf a b (.ok false e) = b e := (rfl)
@[simp] theorem kENt_ok : kENt (.ok bb e) = .ok (.val (.atm (.bl !bb))) e := (rfl)
@[simp] theorem kCons_ok : kCons as (.ok r e) = kCons2 r (as e) := (rfl)
@[simp] theorem kCons2_ok : kCons2 r (.ok rs e) = .ok (r :: rs) e := (rfl)
@[simp] theorem kCons_er : kCons as (.er ex e) = .er ex e := (rfl)
@[simp] theorem kCons2_er : kCons2 r (.er ex e) = .er ex e := (rfl)
@[simp] theorem kDis_ok : kDis mk (.ok rs e) = kDis2 mk (vals rs) e := (rfl)
@[simp] theorem kDis2_ok : kDis2 mk (some ds) e = if ds.length ≤ 16777216 then .ok (.val (mk ds)) e else .no := (rfl)
@[simp] theorem kDis_er : kDis mk (.er ex e) = .er ex e := (rfl)
@[simp] theorem kFrz_ok : kFrz (.ok (.val d) e) = .ok (.val (fz d)) e := (rfl)
@[simp] theorem kFrz_er : kFrz (.er ex e) = .er ex e := (rfl)
@[simp] theorem kCall_ok : kCall n hf (.ok rs e) = kCall2 n hf rs (takeS rs e) := (rfl)
@[simp] theorem kCall2_ok : kCall2 n hf rs (some (ds, e)) = if ds.length = n then kCall3 rs e (hf ds) else .no := (rfl)
@[simp] theorem kCall3_ok : kCall3 rs e (.ok d fin) = .ok (.val d) (putS rs fin e) := (rfl)
@[simp] theorem kCall3_er : kCall3 rs e (.er ex fin) = .er ex e := (rfl)
@[simp] theorem kMut_ok : kMut i hm as (some (.lst true ds)) e = kMut2 i hm (as e) := (rfl)
@[simp] theorem kMut2_ok : kMut2 i hm (.ok rs e) = kMut3 i hm e[i]? (vals rs) e := (rfl)
@[simp] theorem kMut3_ok : kMut3 i hm (some (.lst true ds)) (some fin) e = kMut4 i (hm ds fin) e := (rfl)
@[simp] theorem kMut4_ok : kMut4 i (some (ds, d)) e = .ok (.val d) (e.set i (.lst true ds)) := (rfl)
@[simp] theorem kSub_ok : kSub i a (.ok (.val d) e) = kSub1 i a d e[i]? e := (rfl)
@[simp] theorem kSub1_ok : kSub1 i a d (some (.lst true ds)) e = kSub2 i d (a e) := (rfl)
@[simp] theorem kSub2_ok : kSub2 i d (.ok r e) = kSub3 i d e[i]? (peek r e) e := (rfl)
@[simp] theorem kSub3_ok : kSub3 i d (some (.lst true ds)) (some (.atm (.int kk))) e = kSub4 i d ds (ixN ds.length kk) e := (rfl)
@[simp] theorem kSub4_ok : kSub4 i d ds (some n) e = .ok .nx (e.set i (.lst true (ds.set n d))) := (rfl)
@[simp] theorem kFw_ok : kFw i C fl (.ok (.val d) e) = kFw2 i C fl d e[i]? e := (rfl)
@[simp] theorem kFw2_ok : kFw2 i C fl d (some (.ins true cc nss ds)) e = if decide (cc = C) && decide (nss.length < 1000) && !nss.contains fl then .ok .nx (e.set i (.ins true cc (nss ++ [fl]) (ds ++ [fz d]))) else .no := (rfl)
@[simp] theorem kProp_ok : kProp C hf (.ok r e) = kProp2 C hf r (takeS [r] e) := (rfl)
@[simp] theorem kProp2_ok : kProp2 C hf r (some ([.ins o cc nss ds], e)) = if cc = C then kProp3 r e (hf [.ins o cc nss ds]) else .no := (rfl)
@[simp] theorem kProp3_ok : kProp3 r e (.ok d fin) = .ok (.val d) (putS [r] fin e) := (rfl)
@[simp] theorem kMeth_ok : kMeth C m n hf as (.ok r e) = kMeth1 C m n hf as r (peek r e) e := (rfl)
@[simp] theorem kMeth1_ok : kMeth1 C m n hf as r (some (.ins o cc nss ds)) e = if decide (cc = C) && !nss.contains m then kMeth2 n hf r (as e) else .no := (rfl)
@[simp] theorem kMeth2_ok : kMeth2 n hf r (.ok rs e) = kMeth3 n hf r rs (takeS (r :: rs) e) := (rfl)
@[simp] theorem kMeth3_ok : kMeth3 n hf r rs (some (ds, e)) = if ds.length = n then kCall3 (r :: rs) e (hf ds) else .no := (rfl)
@[simp] theorem kMake_ok : kMake C n hf (.ok rs e) = kMake2 C n hf rs (takeS rs e) := (rfl)
@[simp] theorem kMake2_ok : kMake2 C n hf rs (some (ds, e)) = if ds.length + 1 = n then kMake3 rs e (hf (.ins true C [] [] :: ds)) else .no := (rfl)
@[simp] theorem kMake3_ok : kMake3 rs e (.ok (.atm .non) (d :: fin)) = .ok (.val d) (putS rs fin e) := (rfl)
@[simp] theorem kISeq_l : kISeq (.ok (.val (.lst o ds)) e) = if fzns ds then .ok ds e else .no := (rfl)
@[simp] theorem kISeq_t : kISeq (.ok (.val (.tup ds)) e) = if fzns ds then .ok ds e else .no := (rfl)
@[simp] theorem kISeq_s : kISeq (.ok (.val (.scr nsi)) e) = .ok (nsi.map fun n => .atm (.int n)) e := (rfl)
@[simp] theorem kIEn_l : kIEn (.ok (.val (.lst o ds)) e) = if fzns ds then .ok (enL ds) e else .no := (rfl)
@[simp] theorem kRg_ok : kRg (.ok rs e) = kRg2 (peeks rs e) e := (rfl)
theorem kRg2_ok : kRg2 (some [.atm (.int kk)]) e = if decide (-(2 ^ 62) ≤ kk) && decide (kk < 2 ^ 62) then .ok (rngD 0 kk.toNat) e else .no := rfl
@[simp] theorem kRg2_b (hb : -100000 ≤ kk ∧ kk ≤ 100000) : kRg2 (some [.atm (.int kk)]) e = .ok (rngD 0 kk.toNat) e := by
  have h1 : -(2 ^ 62) ≤ kk := by omega
  have h2 : kk < 2 ^ 62 := by omega
  rw [kRg2_ok]
  simp only [h1, h2, decide_true, Bool.and_self, if_true]
@[simp] theorem kRg2_n {c : Nat} (hb : c ≤ 100000) : kRg2 (some [.atm (.int (c : Int))]) e = .ok (rngD 0 c) e := by
  rw [kRg2_b (by omega), Int.toNat_natCast]
@[simp] theorem kLc_ok : kLc g t a vs (.ok ds e) = kLc2 (lcD g t a vs ds [] (wipeE e vs)) := (rfl)
@[simp] theorem kLc2_ok : kLc2 (.ok ds e) = .ok (.val (.lst true ds)) e := (rfl)
@[simp] theorem kOs_ok : kOs (.ok r e) = kOs2 (peek r e) e := (rfl)
@[simp] theorem kOs2_ok : kOs2 (some (.atm (.int kk))) e = .ok (some kk) e := (rfl)
@[simp] theorem kSl_ok : kSl fl1 fh (.ok r e) = kSl2 r fh (fl1 e) := (rfl)
@[simp] theorem kSl2_ok : kSl2 r fh (.ok lo e) = kSl3 r lo (fh e) := (rfl)
@[simp] theorem kSl3_ok : kSl3 r lo (.ok hi e) = kSl4 lo hi (peek r e) e := (rfl)
@[simp] theorem kSl4_ok : kSl4 lo hi (some d) e = kV (gSl lo hi d) e := (rfl)
@[simp] theorem vals_nil : vals [] = some [] := (rfl)
@[simp] theorem takeS_nil : takeS [] e = some ([], e) := (rfl)
@[simp] theorem putS_nil : putS [] ds e = e := (rfl)
@[simp] theorem putS_slot : putS (.slot i :: rs) (d :: ds) e = putS rs ds (e.set i d) := (rfl)
@[simp] theorem putS_val : putS (.val x :: rs) (d :: ds) e = putS rs ds e := (rfl)
@[simp] theorem fz_atm : fz (.atm v) = .atm v := (rfl)
@[simp] theorem fz_lst : fz (.lst o ds) = .lst false (fzs ds) := (rfl)
@[simp] theorem fz_tup : fz (.tup ds) = .tup (fzs ds) := (rfl)
@[simp] theorem fz_ins : fz (.ins o cc nss ds) = .ins false cc nss (fzs ds) := (rfl)
@[simp] theorem fzn_atm : fzn (.atm v) = true := (rfl)
@[simp] theorem fzn_lst : fzn (.lst o ds) = (!o && fzns ds) := (rfl)
@[simp] theorem fzn_tup : fzn (.tup ds) = fzns ds := (rfl)
@[simp] theorem fzn_ins : fzn (.ins o cc nss ds) = (!o && fzns ds) := (rfl)
@[simp] theorem fzn_scr : fzn (.scr nsi) = true := (rfl)
@[simp] theorem fzn_exo : fzn (.exo aa da cc nss ds) = fzns ds := (rfl)
@[simp] theorem fzns_nil : fzns [] = true := (rfl)
@[simp] theorem fzns_cons : fzns (d :: ds) = (fzn d && fzns ds) := (rfl)
@[simp] theorem fzs_nil : fzs [] = [] := (rfl)
@[simp] theorem fzs_cons : fzs (d :: ds) = fz d :: fzs ds := (rfl)
@[simp] theorem vals_cons : vals (.val d :: rs) = (vals rs).map (d :: ·) := by
  conv => lhs; unfold vals
  cases vals rs <;> rfl
@[simp] theorem peeks_nil : peeks [] e = some [] := (rfl)
@[simp] theorem peeks_cons : peeks (r :: rs) e = (peek r e).bind fun d => (peeks rs e).map (d :: ·) := by
  conv => lhs; unfold peeks
  cases peek r e <;> cases peeks rs e <;> rfl
@[simp] theorem takeS_val : takeS (.val d :: rs) e = (takeS rs e).map fun p => (d :: p.1, p.2) := by
  conv => lhs; unfold takeS
  cases takeS rs e <;> rfl
@[simp] theorem takeS_slot : takeS (.slot i :: rs) e = e[i]?.bind fun d => (takeS rs (e.set i .jnk)).map fun p => (d :: p.1, p.2) := by
  conv => lhs; unfold takeS
  cases e[i]? with
  | none => rfl
  | some d => cases takeS rs (e.set i .jnk) <;> rfl
end
def kFn (P : List Nat) (n : Nat) : M Out → M D
  | .ok (.rt d) e => .ok d (maskD P 0 (e.take n))
  | .ok .nx e => .ok (.atm .non) (maskD P 0 (e.take n))
  | .er x _ => .er x []
  | _ => .no
theorem fnD_e {P : List Nat} {n ns : Nat} {b : Sv} {ds : List D} (h : ds.length = n) : fnD P n ns b ds = kFn P n (b (ds ++ List.replicate (ns - n) .jnk)) := by
  unfold fnD kFn
  rw [if_pos h]
  all_goals (rcases b (ds ++ List.replicate (ns - n) .jnk) with _ | ⟨_, _⟩ | ⟨(_ | _ | _ | _), _⟩ <;> rfl)
section
variable {P : List Nat} {n : Nat} {d : D} {e : EnvD} {ex : Exn}
@[simp] theorem kFn_rt : kFn P n (.ok (.rt d) e) = .ok d (maskD P 0 (e.take n)) := (rfl)
@[simp] theorem kFn_nx : kFn P n (.ok .nx e) = .ok (.atm .non) (maskD P 0 (e.take n)) := (rfl)
@[simp] theorem kFn_er : kFn P n (.er ex e) = .er ex [] := (rfl)
end
/-! loops -/
theorem forD_nx {g : Gv} {b : Sv} {Inv : Nat → EnvD → Prop} : ∀ (ds : List D) (i0 : Nat) (e : EnvD), Inv i0 e →
    (∀ i d e, ds[i]? = some d → Inv (i0 + i) e → ∃ e1 e2, g d e = some e1 ∧ b e1 = .ok .nx e2 ∧ Inv (i0 + i + 1) e2) → ∃ e', forD g b ds e = .ok .nx e' ∧ Inv (i0 + ds.length) e'
  | [], i0, e, h, _ => ⟨e, rfl, h⟩
  | d :: ds, i0, e, h, k => by
    obtain ⟨e1, e2, h1, h2, h3⟩ := k 0 d e rfl h
    obtain ⟨e', h4, h5⟩ := forD_nx ds (i0 + 1) e2 h3 (fun i d e hd hi => by
      have := k (i + 1) d e (by simpa using hd) (by rw [show i0 + (i + 1) = i0 + 1 + i by omega]; exact hi)
      rw [show i0 + (i + 1) = i0 + 1 + i by omega] at this
      exact this)
    refine ⟨e', ?_, by rw [show i0 + (d :: ds).length = i0 + 1 + ds.length by simp; omega]; exact h5⟩
    unfold forD
    rw [h1]
    simp only [h2, bind_ok, h4]
/-- a loop that may return -/
theorem forD_rt {g : Gv} {b : Sv} {Inv : Nat → EnvD → Prop} {R : D → EnvD → Prop} : ∀ (ds : List D) (i0 : Nat) (e : EnvD), Inv i0 e →
    (∀ i d e, ds[i]? = some d → Inv (i0 + i) e → ∃ e1, g d e = some e1 ∧ ((∃ e2, b e1 = .ok .nx e2 ∧ Inv (i0 + i + 1) e2) ∨ ∃ r e2, b e1 = .ok (.rt r) e2 ∧ R r e2)) →
    (∃ e', forD g b ds e = .ok .nx e' ∧ Inv (i0 + ds.length) e') ∨ ∃ r e', forD g b ds e = .ok (.rt r) e' ∧ R r e'
  | [], i0, e, h, _ => .inl ⟨e, rfl, h⟩
  | d :: ds, i0, e, h, k => by
    obtain ⟨e1, h1, hh⟩ := k 0 d e rfl h
    rcases hh with ⟨e2, h2, h3⟩ | ⟨r, e2, h2, h3⟩
    · have ih := forD_rt ds (i0 + 1) e2 h3 (fun i d e hd hi => by
        have := k (i + 1) d e (by simpa using hd) (by rw [show i0 + (i + 1) = i0 + 1 + i by omega]; exact hi)
        rw [show i0 + (i + 1) = i0 + 1 + i by omega] at this
        exact this)
      have e0 : forD g b (d :: ds) e = forD g b ds e2 := by
        conv => lhs; unfold forD
        rw [h1]
        simp only [h2, bind_ok]
      rw [e0, show i0 + (d :: ds).length = i0 + 1 + ds.length by simp; omega]
      exact ih
    · refine .inr ⟨r, e2, ?_, h3⟩
      unfold forD
      rw [h1]
      simp only [h2, bind_ok]
/-- a comprehension -/
theorem lcD_eq {g : Gv} {tt : Tv} {te : Ev} {vs : List Nat} {e0 : EnvD} {F : D → Option D} : ∀ (ds acc : List D),
    (∀ d ∈ ds, ∃ e1, g d e0 = some e1 ∧ ((∃ e2 e3 y, tt e1 = .ok true e2 ∧ te e2 = .ok (.val y) e3 ∧ wipeE e3 vs = e0 ∧ F d = some y) ∨ ∃ e2, tt e1 = .ok false e2 ∧ wipeE e2 vs = e0 ∧ F d = none)) →
    acc.length + ds.length ≤ 16777216 → lcD g tt te vs ds acc e0 = .ok (acc ++ ds.filterMap F) e0
  | [], acc, _, _ => by simp [lcD]
  | d :: ds, acc, k, hl => by
    obtain ⟨e1, h1, hh⟩ := k d List.mem_cons_self
    have kk := fun d' hd => k d' (List.mem_cons_of_mem _ hd)
    simp only [List.length_cons] at hl
    rcases hh with ⟨e2, e3, y, h2, h3, h4, h5⟩ | ⟨e2, h2, h4, h5⟩
    · unfold lcD
      rw [h1]
      simp only [h2, noEr_ok, bind_ok, h3, if_true]
      rw [if_pos (by omega), h4, lcD_eq ds (acc ++ [y]) kk (by simp; omega)]
      simp [h5]
    · unfold lcD
      rw [h1]
      simp only [h2, noEr_ok, bind_ok, Bool.false_eq_true, if_false]
      rw [h4, lcD_eq ds acc kk (by omega)]
      simp [h5]
/-! data -/
abbrev intD (n : Int) : D := .atm (.int n)
def intL (ns : List Int) : List D := ns.map intD
@[simp] theorem fzns_intL : ∀ ns : List Int, fzns (intL ns) = true
  | [] => rfl
  | n :: ns => by simp [intL, intD, fzns, fzn]; exact fzns_intL ns
@[simp] theorem fzs_intL (ns : List Int) : fzs (intL ns) = intL ns := fzs_id _ (fzns_intL ns)
@[simp] theorem length_intL (ns : List Int) : (intL ns).length = ns.length := by simp [intL]
@[simp] theorem fzns_pairL (ps : List (Int × Int)) : fzns (ps.map pairD) = true := fzns_pairs ps
@[simp] theorem fzs_pairL (ps : List (Int × Int)) : fzs (ps.map pairD) = ps.map pairD := fzs_id _ (fzns_pairs ps)
theorem atI_nat {α : Type} {ds : List α} {i : Int} {d : α} (h0 : 0 ≤ i) (h : ds[i.toNat]? = some d) : atI ds i = some d := by
  have hl : i.toNat < ds.length := (List.getElem?_eq_some_iff.mp h).1
  have hb : i < (ds.length : Int) := by omega
  unfold atI ixN
  rw [if_pos h0, if_pos hb]
  exact h
end VS
namespace VS
open PySem L2
theorem gIx_lst {o : Bool} {ds : List D} {i : Int} {d : D} (h0 : 0 ≤ i) (h : ds[i.toNat]? = some d) (f : fzn d = true) : gIx (.lst o ds) (.atm (.int i)) = some d := by
  unfold gIx
  simp [atI_nat h0 h, f]
theorem gIx_tup {ds : List D} {i : Int} {d : D} (h0 : 0 ≤ i) (h : ds[i.toNat]? = some d) (f : fzn d = true) : gIx (.tup ds) (.atm (.int i)) = some d := by
  unfold gIx
  simp [atI_nat h0 h, f]
theorem shaped_int (i : Int) : SeqAt.shaped (.int i) = true := by
  unfold SeqAt.shaped PyData.canLay0 PyData.depth
  rfl
theorem gEq_int (i j : Int) (n : Bool) : gEq n (.atm (.int i)) (.atm (.int j)) = some (.atm (.bl (if n then !decide (i = j) else decide (i = j)))) := by
  have e : PyData.eqv (.int i) (.int j) = decide (i = j) := by
    unfold PyData.eqv
    rfl
  unfold gEq
  simp only [toP, shaped_int, e]
  rfl
theorem toPs_int : ∀ ns : List Int, toPs (intL ns) = some (ns.map PyData.int)
  | [] => rfl
  | n :: ns => by
    show toPs (.atm (.int n) :: intL ns) = _
    unfold toPs
    rw [toPs_int ns]
    rfl
theorem canLay_ints : ∀ ns : List Int, PyData.canLayAll0 (ns.map PyData.int) = true
  | [] => by unfold PyData.canLayAll0; rfl
  | n :: ns => by
    rw [List.map_cons]
    unfold PyData.canLayAll0
    rw [canLay_ints ns]
    unfold PyData.canLay0
    rfl
theorem depth_ints : ∀ ns : List Int, PyData.depthAll (ns.map PyData.int) = 0
  | [] => by unfold PyData.depthAll; rfl
  | n :: ns => by
    rw [List.map_cons]
    unfold PyData.depthAll
    rw [depth_ints ns]
    unfold PyData.depth
    rfl
theorem shaped_ints (ns : List Int) : SeqAt.shaped (.list (ns.map PyData.int)) = true := by
  unfold SeqAt.shaped PyData.canLay0 PyData.depth
  rw [canLay_ints, depth_ints]
  rfl
theorem eqv_ints : ∀ ns ms : List Int, PyData.eqvAll (ns.map PyData.int) (ms.map PyData.int) = decide (ns = ms)
  | [], [] => by unfold PyData.eqvAll; rfl
  | [], m :: ms => by
    rw [List.map_cons]
    unfold PyData.eqvAll
    simp
  | n :: ns, [] => by
    rw [List.map_cons]
    unfold PyData.eqvAll
    simp
  | n :: ns, m :: ms => by
    rw [List.map_cons, List.map_cons]
    unfold PyData.eqvAll
    rw [eqv_ints ns ms]
    unfold PyData.eqv
    by_cases h : n = m <;> simp [h]
theorem gEq_ints (o o' : Bool) (ns ms : List Int) : gEq false (.lst o (intL ns)) (.lst o' (intL ms)) = some (.atm (.bl (decide (ns = ms)))) := by
  unfold gEq
  simp only [toP, toPs_int, shaped_ints]
  have : PyData.eqv (.list (ns.map PyData.int)) (.list (ms.map PyData.int)) = decide (ns = ms) := by
    unfold PyData.eqv
    exact eqv_ints ns ms
  simp [this]
theorem any_ints (i : Int) : ∀ ns : List Int, (ns.map PyData.int).any (fun z => PyData.eqv z (.int i)) = decide (i ∈ ns)
  | [] => rfl
  | n :: ns => by
    rw [List.map_cons, List.any_cons, any_ints i ns]
    have : PyData.eqv (.int n) (.int i) = decide (n = i) := by unfold PyData.eqv; rfl
    rw [this]
    by_cases h : n = i
    · subst h; simp
    · have h' : ¬ i = n := fun z => h z.symm
      simp [h, h']
theorem gIn_ints (neg o : Bool) (i : Int) (ns : List Int) : gIn neg (.atm (.int i)) (.lst o (intL ns)) = some (.atm (.bl (if neg then !decide (i ∈ ns) else decide (i ∈ ns)))) := by
  unfold gIn
  simp only [toP, toPs_int, shaped_ints, shaped_int, any_ints]
  rfl
def pP (p : Int × Int) : PyData := .tuple [.int p.1, .int p.2]
theorem toP_pair (p : Int × Int) : toP (pairD p) = some (pP p) := by
  unfold pairD toP
  have : toPs [.atm (.int p.1), .atm (.int p.2)] = some [.int p.1, .int p.2] := toPs_int [p.1, p.2]
  rw [this]
  rfl
theorem toPs_pairs : ∀ ps : List (Int × Int), toPs (ps.map pairD) = some (ps.map pP)
  | [] => rfl
  | p :: ps => by
    rw [List.map_cons]
    unfold toPs
    rw [toP_pair, toPs_pairs ps]
    rfl
theorem canLay_pair (p : Int × Int) : PyData.canLay0 (pP p) = true := by
  unfold pP PyData.canLay0
  exact canLay_ints [p.1, p.2]
theorem depth_pair (p : Int × Int) : PyData.depth (pP p) = 1 := by
  unfold pP PyData.depth
  rw [show PyData.depthAll [.int p.1, .int p.2] = 0 from depth_ints [p.1, p.2]]
theorem shaped_pair (p : Int × Int) : SeqAt.shaped (pP p) = true := by
  unfold SeqAt.shaped
  rw [canLay_pair, depth_pair]
  rfl
theorem canLay_pairs : ∀ ps : List (Int × Int), PyData.canLayAll0 (ps.map pP) = true
  | [] => by unfold PyData.canLayAll0; rfl
  | p :: ps => by
    rw [List.map_cons]
    unfold PyData.canLayAll0
    rw [canLay_pair, canLay_pairs ps]
    rfl
theorem depth_pairs : ∀ ps : List (Int × Int), PyData.depthAll (ps.map pP) ≤ 1
  | [] => by
    show PyData.depthAll [] ≤ 1
    unfold PyData.depthAll
    exact Nat.zero_le 1
  | p :: ps => by
    rw [List.map_cons]
    unfold PyData.depthAll
    have := depth_pairs ps
    rw [depth_pair]
    omega
theorem shaped_pairs (ps : List (Int × Int)) : SeqAt.shaped (.list (ps.map pP)) = true := by
  unfold SeqAt.shaped PyData.canLay0 PyData.depth
  rw [canLay_pairs]
  have := depth_pairs ps
  simp
  omega
theorem any_pairs (q : Int × Int) : ∀ ps : List (Int × Int), (ps.map pP).any (fun z => PyData.eqv z (pP q)) = decide (q ∈ ps)
  | [] => rfl
  | p :: ps => by
    rw [List.map_cons, List.any_cons, any_pairs q ps]
    have : PyData.eqv (pP p) (pP q) = decide (p = q) := by
      unfold pP PyData.eqv
      rw [show PyData.eqvAll [.int p.1, .int p.2] [.int q.1, .int q.2] = decide ([p.1, p.2] = [q.1, q.2]) from eqv_ints [p.1, p.2] [q.1, q.2]]
      obtain ⟨a, b⟩ := p
      obtain ⟨c, d⟩ := q
      simp
    rw [this]
    by_cases h : p = q
    · subst h; simp
    · have h' : ¬ q = p := fun z => h z.symm
      simp [h, h']
theorem gIn_pairs (neg o : Bool) (q : Int × Int) (ps : List (Int × Int)) : gIn neg (pairD q) (.lst o (ps.map pairD)) = some (.atm (.bl (if neg then !decide (q ∈ ps) else decide (q ∈ ps)))) := by
  unfold gIn
  simp only [toP_pair, toP, toPs_pairs, shaped_pair, shaped_pairs, any_pairs]
  rfl
theorem gEq_str {x y : Str} (hx : SeqAt.shaped (.str x) = true) (hy : SeqAt.shaped (.str y) = true) : gEq false (.atm (.str x)) (.atm (.str y)) = some (.atm (.bl (decide (x = y)))) := by
  unfold gEq
  simp only [toP, hx, hy]
  have : PyData.eqv (.str x) (.str y) = decide (x = y) := by unfold PyData.eqv; by_cases h : x = y <;> simp [h]
  simp [this]
theorem asInts_int : ∀ ns : List Int, asInts (intL ns) = some ns
  | [] => rfl
  | n :: ns => by
    show asInts (.atm (.int n) :: intL ns) = _
    unfold asInts
    rw [asInts_int ns]
theorem asPairs_pair : ∀ ps : List (Int × Int), asPairs (ps.map pairD) = some ps
  | [] => rfl
  | p :: ps => by
    rw [List.map_cons]
    unfold pairD asPairs
    rw [show (ps.map fun p => D.tup [.atm (.int p.1), .atm (.int p.2)]) = ps.map pairD from rfl, asPairs_pair ps]
theorem gSorted_int (o : Bool) (ns : List Int) : gSorted [.lst o (intL ns)] = some (.lst true (intL (srtI ns))) := by
  unfold gSorted
  simp only [asInts_int]
  rfl
theorem gSorted_pair (o : Bool) (ps : List (Int × Int)) : gSorted [.lst o (ps.map pairD)] = some (.lst true ((srtP ps).map pairD)) := by
  unfold gSorted
  cases ps with
  | nil => simp [asInts, srtI, srtP]
  | cons p ps =>
    have : asInts ((p :: ps).map pairD) = none := rfl
    simp only [this, asPairs_pair]
end VS
namespace VS
open PySem L2
section
variable (i j : Int)
@[simp] theorem gMul_i : gMul (.atm (.int i)) (.atm (.int j)) = if cMul i j then some (.atm (.int (i * j))) else none := (rfl)
@[simp] theorem gSub_i : gSub (.atm (.int i)) (.atm (.int j)) = some (.atm (.int (i - j))) := (rfl)
@[simp] theorem gMod_i : gMod (.atm (.int i)) (.atm (.int j)) = if decide (0 < j) then some (.atm (.int (i % j))) else none := (rfl)
@[simp] theorem gDiv_i : gDiv (.atm (.int i)) (.atm (.int j)) = if cDiv i j then some (.atm (.int (i / j))) else none := (rfl)
@[simp] theorem gPow_i : gPow (.atm (.int i)) (.atm (.int j)) = if cPow i j then some (.atm (.int (i ^ j.toNat))) else none := (rfl)
@[simp] theorem gShl_i : gShl (.atm (.int i)) (.atm (.int j)) = if cPow i j then some (.atm (.int (i * 2 ^ j.toNat))) else none := (rfl)
@[simp] theorem gShr_i : gShr (.atm (.int i)) (.atm (.int j)) = if decide (0 ≤ j) then some (.atm (.int (i / 2 ^ j.toNat))) else none := (rfl)
@[simp] theorem gAnd_i : gAnd (.atm (.int i)) (.atm (.int j)) = some (.atm (.int (Builtin.bitAnd i j))) := (rfl)
@[simp] theorem gLt_i : gLt (.atm (.int i)) (.atm (.int j)) = some (.atm (.bl (decide (i < j)))) := (rfl)
@[simp] theorem gLe_i : gLe (.atm (.int i)) (.atm (.int j)) = some (.atm (.bl (decide (i ≤ j)))) := (rfl)
@[simp] theorem gGt_i : gGt (.atm (.int i)) (.atm (.int j)) = some (.atm (.bl (decide (j < i)))) := (rfl)
@[simp] theorem gGe_i : gGe (.atm (.int i)) (.atm (.int j)) = some (.atm (.bl (decide (j ≤ i)))) := (rfl)
@[simp] theorem gNeg_i : gNeg (.atm (.int i)) = some (.atm (.int (-i))) := (rfl)
@[simp] theorem gInt_i : gInt [.atm (.int i)] = some (.atm (.int i)) := (rfl)
@[simp] theorem gMin_i : gMin [.atm (.int i), .atm (.int j)] = some (.atm (.int (if j < i then j else i))) := (rfl)
@[simp] theorem gMax_i : gMax [.atm (.int i), .atm (.int j)] = some (.atm (.int (if j > i then j else i))) := (rfl)
@[simp] theorem gEq_i (n : Bool) : gEq n (.atm (.int i)) (.atm (.int j)) = some (.atm (.bl (if n then !decide (i = j) else decide (i = j)))) := gEq_int i j n
end
section
variable {o : Bool} {ds : List D} {ns : List Int} {d : D} {j : Int}
@[simp] theorem gLen_l : gLen [.lst o ds] = some (.atm (.int ds.length)) := (rfl)
@[simp] theorem gLen_t : gLen [.tup ds] = some (.atm (.int ds.length)) := (rfl)
@[simp] theorem gLen_s : gLen [.scr ns] = some (.atm (.int ns.length)) := (rfl)
@[simp] theorem gList_l : gList [.lst o ds] = if fzns ds then some (.lst true ds) else none := (rfl)
@[simp] theorem gList_t : gList [.tup ds] = if fzns ds then some (.lst true ds) else none := (rfl)
@[simp] theorem gTuple_l : gTuple [.lst o ds] = if fzns ds then some (.tup ds) else none := (rfl)
@[simp] theorem mApp_d : mApp ds [d] = if ds.length < 16777216 then some (ds ++ [d], .atm .non) else none := (rfl)
@[simp] theorem mRev_d : mRev ds [] = some (ds.reverse, .atm .non) := (rfl)
@[simp] theorem mIns_d : mIns ds [.atm (.int j), d] = if decide (ds.length < 16777216) && decide (0 ≤ j) && decide (j < 2 ^ 63) then some (ds.take j.toNat ++ [d] ++ ds.drop j.toNat, .atm .non) else none := (rfl)
end
end VS
set_option Elab.async false
set_option linter.all false
set_option maxRecDepth 100000
set_option maxHeartbeats 2000000
namespace VS
open PySem PySem.Spec PyProof.Rows L2
def kWp (vs : List Nat) : M Out → M Out
  | .ok o e => .ok o (wipeE e vs)
  | m => m
section
variable {vs : List Nat} {f : Sv} {e : EnvD} {o : Out} {x : Exn} {v : Nat}
@[simp] theorem sWp_e : sWp vs f e = kWp vs (f e) := by unfold sWp kWp; cases f e <;> rfl
@[simp] theorem kWp_ok : kWp vs (.ok o e) = .ok o (wipeE e vs) := (rfl)
@[simp] theorem kWp_er : kWp vs (.er x e) = .er x e := (rfl)
@[simp] theorem wipeE_nil : wipeE e [] = e := (rfl)
@[simp] theorem wipeE_cons : wipeE e (v :: vs) = (wipeE e vs).set v .jnk := (rfl)
end
/-! ### loops by a closed form of the state ahead of turn i -/
section
variable {g : Gv} {b : Sv}
theorem forD_at {ds : List D} (E : Nat → EnvD) (h : ∀ i d, ds[i]? = some d → ∃ e1, g d (E i) = some e1 ∧ b e1 = .ok .nx (E (i + 1))) : ∀ {e0}, e0 = E 0 → forD g b ds e0 = .ok .nx (E ds.length) := by
  rintro _ rfl
  induction ds generalizing E with
  | nil => rfl
  | cons d ds ih =>
    obtain ⟨e1, h1, h2⟩ := h 0 d rfl
    unfold forD
    rw [h1]
    simp only [h2, bind_ok]
    exact ih (fun i => E (i + 1)) (fun i d hd => h (i + 1) d (by simpa using hd))
/-- the loop that ends early, at turn k -/
theorem forD_stop {ds : List D} {k : Nat} {m : M Out} (E : Nat → EnvD) (hk : k < ds.length) (h : ∀ i d, i < k → ds[i]? = some d → ∃ e1, g d (E i) = some e1 ∧ b e1 = .ok .nx (E (i + 1)))
    (hm : ∀ d, ds[k]? = some d → ∃ e1, g d (E k) = some e1 ∧ b e1 = m) (ms : (∃ r e, m = .ok (.rt r) e) ∨ ∃ x e, m = .er x e) : ∀ {e0}, e0 = E 0 → forD g b ds e0 = m := by
  rintro _ rfl
  induction ds generalizing E k with
  | nil => simp at hk
  | cons d ds ih =>
    cases k with
    | zero =>
      obtain ⟨e1, h1, h2⟩ := hm d rfl
      unfold forD
      rw [h1]
      rcases ms with ⟨r, e, rfl⟩ | ⟨x, e, rfl⟩
      · simp only [h2, bind_ok]
      · simp only [h2, bind_er]
    | succ k =>
      obtain ⟨e1, h1, h2⟩ := h 0 d (by omega) rfl
      unfold forD
      rw [h1]
      simp only [h2, bind_ok]
      exact ih (fun i => E (i + 1)) (by simpa using hk) (fun i d hi hd => h (i + 1) d (by omega) (by simpa using hd)) (fun d hd => hm d (by simpa using hd))
theorem rngD_get {lo : Int} {n i : Nat} {d : D} (h : (rngD lo n)[i]? = some d) : d = intD (lo + i) ∧ i < n := by
  unfold rngD at h
  rw [List.getElem?_map] at h
  cases e : (List.range n)[i]? with
  | none => rw [e] at h; cases h
  | some x =>
    rw [e] at h; cases h
    obtain ⟨h1, h2⟩ := List.getElem?_eq_some_iff.mp e
    rw [List.getElem_range] at h2
    subst h2
    exact ⟨rfl, by simpa using h1⟩
@[simp] theorem rngD_len (lo : Int) (n : Nat) : (rngD lo n).length = n := by simp [rngD]
theorem forD_rng {lo : Int} {n : Nat} (E : Nat → EnvD) (h : ∀ i : Nat, i < n → ∃ e1, g (intD (lo + i)) (E i) = some e1 ∧ b e1 = .ok .nx (E (i + 1))) {e0} (h0 : e0 = E 0) : forD g b (rngD lo n) e0 = .ok .nx (E n) := by
  have := forD_at (g := g) (b := b) (ds := rngD lo n) E (fun i d hd => by
    obtain ⟨rfl, hi⟩ := rngD_get hd
    exact h i hi) h0
  rwa [rngD_len] at this
theorem forD_rngS {lo : Int} {n k : Nat} {m : M Out} (E : Nat → EnvD) (hk : k < n) (h : ∀ i : Nat, i < k → ∃ e1, g (intD (lo + i)) (E i) = some e1 ∧ b e1 = .ok .nx (E (i + 1)))
    (hm : ∃ e1, g (intD (lo + k)) (E k) = some e1 ∧ b e1 = m) (ms : (∃ r e, m = .ok (.rt r) e) ∨ ∃ x e, m = .er x e) {e0} (h0 : e0 = E 0) : forD g b (rngD lo n) e0 = m :=
  forD_stop (ds := rngD lo n) (k := k) E (by simpa using hk) (fun i d hi hd => by
    obtain ⟨rfl, _⟩ := rngD_get hd
    exact h i hi) (fun d hd => by
    obtain ⟨rfl, _⟩ := rngD_get hd
    exact hm) ms h0
/-! ### lists of data, by what each item stands for -/
def mL {α : Type} (en : α → D) (xs : List α) : List D := xs.map en
class FzE {α : Type} (en : α → D) : Prop where
  h : ∀ x, fzn (en x) = true
theorem fzns_mL' {α : Type} (en : α → D) (h : ∀ x, fzn (en x) = true) : ∀ xs : List α, fzns (mL en xs) = true
  | [] => rfl
  | x :: xs => by
    show (fzn (en x) && fzns (mL en xs)) = true
    rw [h, fzns_mL' en h xs]
    rfl
section
variable {α : Type} {en : α → D} {xs : List α} {x : α}
@[simp] theorem fzns_mL [i : FzE en] : fzns (mL en xs) = true := fzns_mL' en i.h xs
@[simp] theorem fzs_mL [i : FzE en] : fzs (mL en xs) = mL en xs := fzs_id _ (fzns_mL' en i.h xs)
@[simp] theorem mL_len : (mL en xs).length = xs.length := by simp [mL]
@[simp] theorem mL_nil : mL en [] = [] := (rfl)
theorem mL_cons : mL en (x :: xs) = en x :: mL en xs := rfl
@[simp] theorem mL_snoc : mL en xs ++ [en x] = mL en (xs ++ [x]) := by simp [mL]
theorem mL_get {i : Nat} : (mL en xs)[i]? = xs[i]?.map en := by simp [mL]
@[simp] theorem mL_app {ys : List α} : mL en xs ++ mL en ys = mL en (xs ++ ys) := by simp [mL]
@[simp] theorem mL_rev : (mL en xs).reverse = mL en xs.reverse := by simp [mL]
@[simp] theorem mL_take {n : Nat} : (mL en xs).take n = mL en (xs.take n) := by simp [mL]
@[simp] theorem mL_drop {n : Nat} : (mL en xs).drop n = mL en (xs.drop n) := by simp [mL]
@[simp] theorem mL_erase {k : Nat} : (mL en xs).eraseIdx k = mL en (xs.eraseIdx k) := by
  unfold mL
  induction xs generalizing k with
  | nil => rfl
  | cons a l ih => cases k with
    | zero => rfl
    | succ k =>
      show en a :: (l.map en).eraseIdx k = en a :: (l.eraseIdx k).map en
      rw [ih]
theorem mL_set {k : Nat} : (mL en xs).set k (en x) = mL en (xs.set k x) := by
  unfold mL
  induction xs generalizing k with
  | nil => rfl
  | cons a l ih => cases k with
    | zero => rfl
    | succ k =>
      show en a :: (l.map en).set k (en x) = en a :: (l.set k x).map en
      rw [ih]
end
instance : FzE intD := ⟨fun _ => rfl⟩
instance : FzE pairD := ⟨fun _ => rfl⟩
@[simp] theorem mL_consI {ns : List Int} {x : Int} : (.atm (.int x) : D) :: mL intD ns = mL intD (x :: ns) := (rfl)
@[simp] theorem mL_snocP {ps : List (Int × Int)} {x y : Int} : mL pairD ps ++ [.tup [.atm (.int x), .atm (.int y)]] = mL pairD (ps ++ [(x, y)]) := by simp [mL, pairD]
theorem map_get {α : Type} {en : α → D} {xs : List α} {i : Nat} {d : D} (h : (mL en xs)[i]? = some d) : ∃ x, xs[i]? = some x ∧ d = en x := by
  rw [mL_get] at h
  cases e : xs[i]? with
  | none => rw [e] at h; cases h
  | some x => rw [e] at h; cases h; exact ⟨x, rfl, rfl⟩
theorem forD_map {α : Type} {en : α → D} {xs : List α} (E : Nat → EnvD) (h : ∀ i x, xs[i]? = some x → ∃ e1, g (en x) (E i) = some e1 ∧ b e1 = .ok .nx (E (i + 1))) {e0} (h0 : e0 = E 0) : forD g b (mL en xs) e0 = .ok .nx (E xs.length) := by
  have := forD_at (g := g) (b := b) (ds := mL en xs) E (fun i d hd => by
    obtain ⟨x, hx, rfl⟩ := map_get hd
    exact h i x hx) h0
  rwa [mL_len] at this
theorem forD_mapS {α : Type} {en : α → D} {xs : List α} {k : Nat} {m : M Out} (E : Nat → EnvD) (hk : k < xs.length) (h : ∀ i x, i < k → xs[i]? = some x → ∃ e1, g (en x) (E i) = some e1 ∧ b e1 = .ok .nx (E (i + 1)))
    (hm : ∀ x, xs[k]? = some x → ∃ e1, g (en x) (E k) = some e1 ∧ b e1 = m) (ms : (∃ r e, m = .ok (.rt r) e) ∨ ∃ x e, m = .er x e) {e0} (h0 : e0 = E 0) : forD g b (mL en xs) e0 = m :=
  forD_stop (ds := mL en xs) (k := k) E (by simpa using hk) (fun i d hi hd => by
    obtain ⟨x, hx, rfl⟩ := map_get hd
    exact h i x hi hx) (fun d hd => by
    obtain ⟨x, hx, rfl⟩ := map_get hd
    exact hm x hx) ms h0
/-- with a state that is a fold over the items -/
theorem forD_fold {α σ : Type} {en : α → D} (st : σ → α → σ) (E : σ → EnvD) : ∀ (xs : List α) (s0 : σ) (I : σ → Prop), I s0 → (∀ s x, x ∈ xs → I s → (∃ e1, g (en x) (E s) = some e1 ∧ b e1 = .ok .nx (E (st s x))) ∧ I (st s x)) → ∀ {e0}, e0 = E s0 → forD g b (mL en xs) e0 = .ok .nx (E (xs.foldl st s0)) ∧ I (xs.foldl st s0)
  | [], s0, I, hi, h, _, rfl => ⟨rfl, hi⟩
  | x :: xs, s0, I, hi, h, _, rfl => by
    obtain ⟨⟨e1, h1, h2⟩, h3⟩ := h s0 x List.mem_cons_self hi
    have ih := forD_fold st E xs (st s0 x) I h3 (fun s y hy => h s y (List.mem_cons_of_mem _ hy)) rfl
    rw [mL_cons, List.foldl_cons]
    conv => lhs; lhs; unfold forD
    rw [h1]
    simp only [h2, bind_ok]
    exact ih
end
/-! ### comprehensions, by what the test and the element are -/
theorem lc_map {α β : Type} {g : Gv} {tt : Tv} {te : Ev} {vs : List Nat} {e0 : EnvD} {en : α → D} {en' : β → D} (xs : List α) (p : α → Bool) (f : α → β) (e1 : α → EnvD)
    (hg : ∀ x, g (en x) e0 = some (e1 x)) (hw : ∀ x, wipeE (e1 x) vs = e0)
    (ht : ∀ x ∈ xs, tt (e1 x) = .ok (p x) (e1 x)) (he : ∀ x ∈ xs, p x = true → te (e1 x) = .ok (.val (en' (f x))) (e1 x)) (hl : xs.length ≤ 16777216) :
    lcD g tt te vs (mL en xs) [] e0 = .ok (mL en' ((xs.filter p).map f)) e0 := by
  have : ∀ (xs : List α) (acc : List D), (∀ x ∈ xs, tt (e1 x) = .ok (p x) (e1 x)) → (∀ x ∈ xs, p x = true → te (e1 x) = .ok (.val (en' (f x))) (e1 x)) → acc.length + xs.length ≤ 16777216 → lcD g tt te vs (mL en xs) acc e0 = .ok (acc ++ mL en' ((xs.filter p).map f)) e0 := by
    intro xs
    induction xs with
    | nil => intro acc _ _ _; simp [lcD, mL]
    | cons x xs ih =>
      intro acc ht he hl
      simp only [List.length_cons] at hl
      have h1 := ht x List.mem_cons_self
      rw [mL_cons]
      unfold lcD
      rw [hg x]
      simp only [h1, noEr_ok, bind_ok]
      cases hp : p x with
      | true =>
        simp only [if_true, he x List.mem_cons_self hp, noEr_ok, bind_ok]
        rw [if_pos (by omega), hw, ih _ (fun y hy => ht y (List.mem_cons_of_mem _ hy)) (fun y hy => he y (List.mem_cons_of_mem _ hy)) (by simp; omega)]
        simp [hp, mL]
      | false =>
        simp only [Bool.false_eq_true, if_false]
        rw [hw, ih _ (fun y hy => ht y (List.mem_cons_of_mem _ hy)) (fun y hy => he y (List.mem_cons_of_mem _ hy)) (by omega)]
        simp [hp, mL]
  have := this xs [] ht he (by simpa using hl)
  rwa [List.nil_append] at this
end VS
set_option Elab.async false
set_option linter.all false
set_option maxRecDepth 100000
set_option maxHeartbeats 2000000
namespace VS
open PySem PySem.Spec PyProof.Rows L2
/-! more evaluation rules -/
def kCh4 (g' : D → D → Option D) : Option D → Option D → EnvD → M R
  | some y, some z, e => kV (g' y z) e
  | _, _, _ => .no
def kCh3 (g' : D → D → Option D) (rb : R) : M R → M R
  | .ok rc e => kCh4 g' (peek rb e) (peek rc e) e
  | .er x e => .er x e
  | .no => .no
def kCh2 (g' : D → D → Option D) (fc : Ev) (rb : R) : Option D → EnvD → M R
  | some (.atm (.bl true)), e => kCh3 g' rb (fc e)
  | some (.atm (.bl false)), e => .ok (.val (.atm (.bl false))) e
  | _, _ => .no
def kCh1 (g g' : D → D → Option D) (fc : Ev) (rb : R) : Option D → Option D → EnvD → M R
  | some x, some y, e => kCh2 g' fc rb (g x y) e
  | _, _, _ => .no
def kChb (g g' : D → D → Option D) (fc : Ev) (ra : R) : M R → M R
  | .ok rb e => kCh1 g g' fc rb (peek ra e) (peek rb e) e
  | .er x e => .er x e
  | .no => .no
def kCha (g g' : D → D → Option D) (fb fc : Ev) : M R → M R
  | .ok ra e => kChb g g' fc ra (fb e)
  | .er x e => .er x e
  | .no => .no
section
variable {g g' : D → D → Option D} {fa fb fc : Ev} {e : EnvD} {ra rb rc : R} {x y z : D} {bb : Bool} {ex : Exn}
@[simp] theorem eCh_e : eCh g g' fa fb fc e = kCha g g' fb fc (fa e) := by
  unfold eCh kCha
  cases fa e with
  | no => rfl
  | er x e => rfl
  | ok ra e1 =>
    show (fb e1).bind _ = kChb g g' fc ra (fb e1)
    unfold kChb
    cases fb e1 with
    | no => rfl
    | er x e => rfl
    | ok rb e2 =>
      show (match peek ra e2, peek rb e2 with
        | some x, some y => match g x y with
          | some (.atm (.bl true)) => (fc e2).bind fun rc e3 => match peek rb e3, peek rc e3 with
            | some y, some z => (lift (g' y z) e3).bind fun w e4 => M.ok (R.val w) e4
            | _, _ => .no
          | some (.atm (.bl false)) => .ok (.val (.atm (.bl false))) e2
          | _ => .no
        | _, _ => .no) = kCh1 g g' fc rb (peek ra e2) (peek rb e2) e2
      cases peek ra e2 with
      | none => rfl
      | some x => cases peek rb e2 with
        | none => rfl
        | some y =>
          show (match g x y with
            | some (.atm (.bl true)) => (fc e2).bind fun rc e3 => match peek rb e3, peek rc e3 with
              | some y, some z => (lift (g' y z) e3).bind fun w e4 => M.ok (R.val w) e4
              | _, _ => .no
            | some (.atm (.bl false)) => .ok (.val (.atm (.bl false))) e2
            | _ => .no) = kCh2 g' fc rb (g x y) e2
          rcases g x y with _ | d
          · rfl
          · cases d with
            | atm v => cases v with
              | bl b => cases b with
                | false => rfl
                | true =>
                  show (fc e2).bind _ = kCh3 g' rb (fc e2)
                  unfold kCh3
                  cases fc e2 with
                  | no => rfl
                  | er x e => rfl
                  | ok rc e3 =>
                    show (match peek rb e3, peek rc e3 with
                      | some y, some z => (lift (g' y z) e3).bind fun w e4 => M.ok (R.val w) e4
                      | _, _ => .no) = kCh4 g' (peek rb e3) (peek rc e3) e3
                    cases peek rb e3 with
                    | none => rfl
                    | some y => cases peek rc e3 with
                      | none => rfl
                      | some z =>
                        show (lift (g' y z) e3).bind _ = kV (g' y z) e3
                        cases g' y z <;> rfl
              | _ => rfl
            | _ => rfl
@[simp] theorem kCha_ok : kCha g g' fb fc (.ok ra e) = kChb g g' fc ra (fb e) := (rfl)
@[simp] theorem kChb_ok : kChb g g' fc ra (.ok rb e) = kCh1 g g' fc rb (peek ra e) (peek rb e) e := (rfl)
@[simp] theorem kCh1_ok : kCh1 g g' fc rb (some x) (some y) e = kCh2 g' fc rb (g x y) e := (rfl)
@[simp] theorem kCh2_t : kCh2 g' fc rb (some (.atm (.bl true))) e = kCh3 g' rb (fc e) := (rfl)
@[simp] theorem kCh2_f : kCh2 g' fc rb (some (.atm (.bl false))) e = .ok (.val (.atm (.bl false))) e := (rfl)
@[simp] theorem kCh3_ok : kCh3 g' rb (.ok rc e) = kCh4 g' (peek rb e) (peek rc e) e := (rfl)
@[simp] theorem kCh4_ok : kCh4 g' (some y) (some z) e = kV (g' y z) e := (rfl)
end
/-! raise -/
def kRz2 (C : Addr) (fld : Str) (okD : D → Bool) : Option (List D) → EnvD → M Out
  | some [d], e => if okD d then .er ⟨C, [fld], [fz d]⟩ e else .no
  | _, _ => .no
def kRz (C : Addr) (fld : Str) (okD : D → Bool) : M (List R) → M Out
  | .ok rs e => kRz2 C fld okD (vals rs) e
  | .er x e => .er x e
  | .no => .no
section
variable {C : Addr} {fld : Str} {okD : D → Bool} {as : Av} {e : EnvD} {rs : List R} {d : D}
@[simp] theorem sRaise_e : sRaise C fld okD as e = kRz C fld okD (as e) := by
  unfold sRaise kRz
  cases as e with
  | no => rfl
  | er x e => rfl
  | ok rs e1 =>
    show (match vals rs with
      | some [d] => if okD d then M.er ⟨C, [fld], [fz d]⟩ e1 else .no
      | _ => .no) = kRz2 C fld okD (vals rs) e1
    rcases vals rs with _ | (_ | ⟨_, (_ | _)⟩) <;> rfl
@[simp] theorem kRz_ok : kRz C fld okD (.ok rs e) = kRz2 C fld okD (vals rs) e := (rfl)
@[simp] theorem kRz2_ok : kRz2 C fld okD (some [d]) e = if okD d then .er ⟨C, [fld], [fz d]⟩ e else .no := (rfl)
@[simp] theorem okI_i {n : Int} : okI (.atm (.int n)) = true := (rfl)
end
/-! try -/
def kTry3 : Option (Out × EnvD) → M Out
  | some (o, e) => .ok o e
  | none => .no
def kTry2 (i : Nat) (gs : Gx) (x : Exn) (e : EnvD) : Option Bool → M Out
  | some true => if i < e.length then kTry3 (gs x e) else .no
  | some false => .er x e
  | none => .no
def kTry (K : PySem.W.Frag) (C : Addr) (i : Nat) (gs : Gx) : M Out → M Out
  | .no => .no
  | .ok o e => .ok o e
  | .er x e => kTry2 i gs x e (PySem.W.exmOne K (.ref x.c) (.ref C))
section
variable {K : PySem.W.Frag} {C : Addr} {i : Nat} {f : Sv} {gs : Gx} {e : EnvD} {o : Out} {x : Exn}
@[simp] theorem sTry_e : sTry K C i f gs e = kTry K C i gs (f e) := by
  unfold sTry kTry kTry2 kTry3
  cases f e with
  | no => rfl
  | ok o e => rfl
  | er x e =>
    simp only
    all_goals (rcases PySem.W.exmOne K (.ref x.c) (.ref C) with _ | (_ | _))
    all_goals first | rfl | (simp only; split <;> rfl)
@[simp] theorem kTry_ok : kTry K C i gs (.ok o e) = .ok o e := (rfl)
@[simp] theorem kTry_er : kTry K C i gs (.er x e) = kTry2 i gs x e (PySem.W.exmOne K (.ref x.c) (.ref C)) := (rfl)
@[simp] theorem kTry2_t : kTry2 i gs x e (some true) = if i < e.length then kTry3 (gs x e) else .no := (rfl)
@[simp] theorem kTry3_ok : kTry3 (some (o, e)) = .ok o e := (rfl)
end
/-! parts -/
def kMp6 (i j : Nat) (d0 : D) (ds : List D) : Option (List D × D) → EnvD → M R
  | some (es, z), e => .ok (.val z) (e.set i (box d0 (ds.set j (.lst true es))))
  | none, _ => .no
def kMp5 (i j : Nat) (d0 : D) (ds es : List D) (g : List D → List D → Option (List D × D)) : Option (List D) → EnvD → M R
  | some as, e => kMp6 i j d0 ds (g es as) e
  | none, _ => .no
def kMp4 (i j : Nat) (d0 : D) (ds es : List D) (g : List D → List D → Option (List D × D)) : M (List R) → M R
  | .ok rs e => kMp5 i j d0 ds es g (vals rs) e
  | .er x e => .er x e
  | .no => .no
def kMp3 (i j : Nat) (d0 : D) (ds : List D) (g : List D → List D → Option (List D × D)) (fa : Av) : Option D → EnvD → M R
  | some (.lst true es), e => kMp4 i j d0 ds es g (fa (e.set i .jnk))
  | _, _ => .no
def kMp2 (i : Nat) (d0 : D) (ds : List D) (g : List D → List D → Option (List D × D)) (fa : Av) : Option Nat → EnvD → M R
  | some j, e => kMp3 i j d0 ds g fa ds[j]? e
  | none, _ => .no
def kMp1b (i : Nat) (d0 : D) (k : Int) (g : List D → List D → Option (List D × D)) (fa : Av) : Option (List D) → EnvD → M R
  | some ds, e => kMp2 i d0 ds g fa (ixN ds.length k) e
  | none, _ => .no
def kMp1 (i : Nat) (g : List D → List D → Option (List D × D)) (fa : Av) : Option D → Option D → EnvD → M R
  | some d0, some (.atm (.int k)), e => kMp1b i d0 k g fa (kids d0) e
  | _, _, _ => .no
def kMp0 (i : Nat) (g : List D → List D → Option (List D × D)) (fa : Av) : M R → M R
  | .ok rk e => kMp1 i g fa e[i]? (peek rk e) e
  | .er x e => .er x e
  | .no => .no
def kMpz2 (i : Nat) (fk : Ev) (g : List D → List D → Option (List D × D)) (fa : Av) : Option (List D) → EnvD → M R
  | some _, e => kMp0 i g fa (fk e)
  | none, _ => .no
def kMpz (i : Nat) (fk : Ev) (g : List D → List D → Option (List D × D)) (fa : Av) : Option D → EnvD → M R
  | some d, e => kMpz2 i fk g fa (kids d) e
  | none, _ => .no
section
variable {i j : Nat} {fk : Ev} {g : List D → List D → Option (List D × D)} {fa : Av} {e : EnvD} {d d0 z : D} {ds es as : List D} {rk : R} {k : Int} {rs : List R}
@[simp] theorem eMutP_e : eMutP i fk g fa e = kMpz i fk g fa e[i]? e := by
  unfold eMutP kMpz
  cases e[i]? with
  | none => rfl
  | some d00 =>
    simp only
    unfold kMpz2
    cases kids d00 with
    | none => rfl
    | some ds0 =>
      simp only
      unfold kMp0
      cases fk e with
      | no => rfl
      | er x e => rfl
      | ok rk e1 =>
        simp only [bind_ok]
        cases e1[i]? with
        | none => rfl
        | some d0 => cases peek rk e1 with
          | none => rfl
          | some kd => cases kd with
            | atm v => cases v with
              | int k =>
                simp only [kMp1]
                cases kids d0 with
                | none => rfl
                | some ds =>
                  simp only [kMp1b]
                  cases ixN ds.length k with
                  | none => rfl
                  | some j =>
                    simp only [kMp2]
                    cases ds[j]? with
                    | none => rfl
                    | some dj => cases dj with
                      | lst o es => cases o with
                        | false => rfl
                        | true =>
                          simp only [kMp3]
                          unfold kMp4
                          cases fa (e1.set i .jnk) with
                          | no => rfl
                          | er x e => rfl
                          | ok rs e2 =>
                            simp only [bind_ok]
                            cases vals rs with
                            | none => rfl
                            | some as =>
                              simp only [kMp5]
                              cases g es as <;> rfl
                      | _ => rfl
              | _ => rfl
            | _ => rfl
@[simp] theorem kMpz_ok : kMpz i fk g fa (some d) e = kMpz2 i fk g fa (kids d) e := (rfl)
@[simp] theorem kMpz2_ok : kMpz2 i fk g fa (some ds) e = kMp0 i g fa (fk e) := (rfl)
@[simp] theorem kMp0_ok : kMp0 i g fa (.ok rk e) = kMp1 i g fa e[i]? (peek rk e) e := (rfl)
@[simp] theorem kMp1_ok : kMp1 i g fa (some d0) (some (.atm (.int k))) e = kMp1b i d0 k g fa (kids d0) e := (rfl)
@[simp] theorem kMp1b_ok : kMp1b i d0 k g fa (some ds) e = kMp2 i d0 ds g fa (ixN ds.length k) e := (rfl)
@[simp] theorem kMp2_ok : kMp2 i d0 ds g fa (some j) e = kMp3 i j d0 ds g fa ds[j]? e := (rfl)
@[simp] theorem kMp3_ok : kMp3 i j d0 ds g fa (some (.lst true es)) e = kMp4 i j d0 ds es g (fa (e.set i .jnk)) := (rfl)
@[simp] theorem kMp4_ok : kMp4 i j d0 ds es g (.ok rs e) = kMp5 i j d0 ds es g (vals rs) e := (rfl)
@[simp] theorem kMp5_ok : kMp5 i j d0 ds es g (some as) e = kMp6 i j d0 ds (g es as) e := (rfl)
@[simp] theorem kMp6_ok {es' : List D} : kMp6 i j d0 ds (some (es', z)) e = .ok (.val z) (e.set i (box d0 (ds.set j (.lst true es')))) := (rfl)
@[simp] theorem kids_l : kids (.lst true ds) = some ds := (rfl)
@[simp] theorem kids_t : kids (.tup ds) = some ds := (rfl)
@[simp] theorem box_l {o : Bool} : box (.lst o ds) es = .lst o es := (rfl)
@[simp] theorem box_t : box (.tup ds) es = .tup es := (rfl)
end
/-! a call with a part -/
def kCp6 (i j : Nat) (d0 : D) (ds : List D) (rs : List R) (e3 : EnvD) : M D → M R
  | .no => .no
  | .er x _ => .er x e3
  | .ok r (dj :: fin) => .ok (.val r) ((putS rs fin e3).set i (box d0 (ds.set j dj)))
  | .ok _ [] => .no
def kCp5 (i j n : Nat) (h : Fv) (d0 dj : D) (ds : List D) (rs : List R) : Option (List D × EnvD) → M R
  | some (as, e3) => if as.length + 1 = n then kCp6 i j d0 ds rs e3 (h (dj :: as)) else .no
  | none => .no
def kCp4 (i j n : Nat) (h : Fv) (d0 dj : D) (ds : List D) : M (List R) → M R
  | .ok rs e => kCp5 i j n h d0 dj ds rs (takeS rs e)
  | .er x e => .er x e
  | .no => .no
def kCp3 (i j n : Nat) (h : Fv) (d0 : D) (ds : List D) (fa : Av) : Option D → EnvD → M R
  | some dj, e => kCp4 i j n h d0 dj ds (fa (e.set i .jnk))
  | none, _ => .no
def kCp2 (i n : Nat) (h : Fv) (d0 : D) (ds : List D) (fa : Av) : Option Nat → EnvD → M R
  | some j, e => kCp3 i j n h d0 ds fa ds[j]? e
  | none, _ => .no
def kCp1b (i n : Nat) (h : Fv) (d0 : D) (k : Int) (fa : Av) : Option (List D) → EnvD → M R
  | some ds, e => kCp2 i n h d0 ds fa (ixN ds.length k) e
  | none, _ => .no
def kCp1 (i n : Nat) (h : Fv) (fa : Av) : Option D → Option D → EnvD → M R
  | some d0, some (.atm (.int k)), e => kCp1b i n h d0 k fa (kids d0) e
  | _, _, _ => .no
def kCp0 (i n : Nat) (h : Fv) (fa : Av) : M R → M R
  | .ok rk e => kCp1 i n h fa e[i]? (peek rk e) e
  | .er x e => .er x e
  | .no => .no
def kCpz2 (i n : Nat) (h : Fv) (fk : Ev) (fa : Av) : Option (List D) → EnvD → M R
  | some _, e => kCp0 i n h fa (fk e)
  | none, _ => .no
def kCpz (i n : Nat) (h : Fv) (fk : Ev) (fa : Av) : Option D → EnvD → M R
  | some d, e => kCpz2 i n h fk fa (kids d) e
  | none, _ => .no
section
variable {i j n : Nat} {h : Fv} {fk : Ev} {fa : Av} {e : EnvD} {d d0 dj r : D} {ds es as fin : List D} {rk : R} {k : Int} {rs : List R}
@[simp] theorem eCallP_e : eCallP i n h fk fa e = kCpz i n h fk fa e[i]? e := by
  unfold eCallP kCpz
  cases e[i]? with
  | none => rfl
  | some d00 =>
    simp only
    unfold kCpz2
    cases kids d00 with
    | none => rfl
    | some ds0 =>
      simp only
      unfold kCp0
      cases fk e with
      | no => rfl
      | er x e => rfl
      | ok rk e1 =>
        simp only [bind_ok]
        cases e1[i]? with
        | none => rfl
        | some d0 => cases peek rk e1 with
          | none => rfl
          | some kd => cases kd with
            | atm v => cases v with
              | int k =>
                simp only [kCp1]
                cases kids d0 with
                | none => rfl
                | some ds =>
                  simp only [kCp1b]
                  cases ixN ds.length k with
                  | none => rfl
                  | some j =>
                    simp only [kCp2]
                    cases ds[j]? with
                    | none => rfl
                    | some dj =>
                      simp only [kCp3]
                      unfold kCp4
                      cases fa (e1.set i .jnk) with
                      | no => rfl
                      | er x e => rfl
                      | ok rs e2 =>
                        simp only [bind_ok]
                        unfold kCp5
                        rcases takeS rs e2 with _ | ⟨as, e3⟩
                        · rfl
                        · simp only
                          split
                          · rcases h (dj :: as) with _ | ⟨_, _⟩ | ⟨_, (_ | _)⟩ <;> rfl
                          · rfl
              | _ => rfl
            | _ => rfl
@[simp] theorem kCpz_ok : kCpz i n h fk fa (some d) e = kCpz2 i n h fk fa (kids d) e := (rfl)
@[simp] theorem kCpz2_ok : kCpz2 i n h fk fa (some ds) e = kCp0 i n h fa (fk e) := (rfl)
@[simp] theorem kCp0_ok : kCp0 i n h fa (.ok rk e) = kCp1 i n h fa e[i]? (peek rk e) e := (rfl)
@[simp] theorem kCp1_ok : kCp1 i n h fa (some d0) (some (.atm (.int k))) e = kCp1b i n h d0 k fa (kids d0) e := (rfl)
@[simp] theorem kCp1b_ok : kCp1b i n h d0 k fa (some ds) e = kCp2 i n h d0 ds fa (ixN ds.length k) e := (rfl)
@[simp] theorem kCp2_ok : kCp2 i n h d0 ds fa (some j) e = kCp3 i j n h d0 ds fa ds[j]? e := (rfl)
@[simp] theorem kCp3_ok : kCp3 i j n h d0 ds fa (some dj) e = kCp4 i j n h d0 dj ds (fa (e.set i .jnk)) := (rfl)
@[simp] theorem kCp4_ok : kCp4 i j n h d0 dj ds (.ok rs e) = kCp5 i j n h d0 dj ds rs (takeS rs e) := (rfl)
@[simp] theorem kCp5_ok {e3 : EnvD} : kCp5 i j n h d0 dj ds rs (some (as, e3)) = if as.length + 1 = n then kCp6 i j d0 ds rs e3 (h (dj :: as)) else .no := (rfl)
@[simp] theorem kCp6_ok {e3 : EnvD} : kCp6 i j d0 ds rs e3 (.ok r (dj :: fin)) = .ok (.val r) ((putS rs fin e3).set i (box d0 (ds.set j dj))) := (rfl)
end
/-! a moving loop, a dict comprehension -/
def kFm2 (i : Nat) (ds : List D) : M Out → M Out
  | .ok o e => .ok o (e.set i (.lst true (ds.map fun _ => .jnk)))
  | m => m
def kFm (i : Nat) (g : Gv) (b : Sv) : Option D → EnvD → M Out
  | some (.lst true ds), e => kFm2 i ds (forD g b ds (e.set i .jnk))
  | _, _ => .no
def kDc2 : M (List (List L2.Key) × List D) → M R
  | .ok p e => .ok (.val (.dct true p.1 p.2)) e
  | .er x e => .er x e
  | .no => .no
def kDc (g : Gv) (tk tv : Ev) (vs : List Nat) : M (List D) → M R
  | .ok ds e => kDc2 (dcD g tk tv vs ds [] [] (wipeE e vs))
  | .er x e => .er x e
  | .no => .no
section
variable {i : Nat} {g : Gv} {b : Sv} {e : EnvD} {ds : List D} {o : Out} {fi : Iv} {tk tv : Ev} {vs : List Nat} {p : List (List L2.Key) × List D} {x : Exn}
@[simp] theorem sForMv_e : sForMv i g b e = kFm i g b e[i]? e := by
  unfold sForMv kFm
  cases e[i]? with
  | none => rfl
  | some d => cases d with
    | lst o ds => cases o with
      | false => rfl
      | true =>
        simp only
        unfold kFm2
        cases forD g b ds (e.set i .jnk) <;> rfl
    | _ => rfl
@[simp] theorem kFm_ok : kFm i g b (some (.lst true ds)) e = kFm2 i ds (forD g b ds (e.set i .jnk)) := (rfl)
@[simp] theorem kFm2_ok : kFm2 i ds (.ok o e) = .ok o (e.set i (.lst true (ds.map fun _ => .jnk))) := (rfl)
@[simp] theorem eDc_e : eDc fi g tk tv vs e = if e.length ≤ 64 then kDc g tk tv vs (fi e) else .no := by
  unfold eDc kDc
  split
  · cases fi e with
    | no => rfl
    | er x e => rfl
    | ok ds e1 =>
      simp only [bind_ok]
      unfold kDc2
      cases dcD g tk tv vs ds [] [] (wipeE e1 vs) <;> rfl
  · rfl
@[simp] theorem kDc_ok : kDc g tk tv vs (.ok ds e) = kDc2 (dcD g tk tv vs ds [] [] (wipeE e vs)) := (rfl)
@[simp] theorem kDc2_ok : kDc2 (.ok p e) = .ok (.val (.dct true p.1 p.2)) e := (rfl)
@[simp] theorem kFor_er : kFor g b (.er x e) = .er x e := (rfl)
end
/-! targets that are tuples -/
section
variable {n : Nat} {gs : Gvs} {g : Gv} {ds : List D} {d : D} {e : EnvD}
@[simp] theorem gT_t : gT n gs (.tup ds) e = if ds.length = n then gs ds e else none := (rfl)
@[simp] theorem gsNil_e : gsNil [] e = some e := (rfl)
def kGs (gs : Gvs) (ds : List D) : Option EnvD → Option EnvD
  | some e => gs ds e
  | none => none
@[simp] theorem gsCons_e : gsCons g gs (d :: ds) e = kGs gs ds (g d e) := by
  unfold gsCons kGs
  simp only
  all_goals (cases g d e <;> rfl)
@[simp] theorem kGs_ok : kGs gs ds (some e) = gs ds e := (rfl)
end
/-! ints, pairs as lists -/
@[simp] theorem gIn_mi (neg o : Bool) (i : Int) (ns : List Int) : gIn neg (.atm (.int i)) (.lst o (mL intD ns)) = some (.atm (.bl (if neg then !decide (i ∈ ns) else decide (i ∈ ns)))) := gIn_ints neg o i ns
@[simp] theorem gEq_ml (o o' : Bool) (ns ms : List Int) : gEq false (.lst o (mL intD ns)) (.lst o' (mL intD ms)) = some (.atm (.bl (decide (ns = ms)))) := gEq_ints o o' ns ms
@[simp] theorem gSorted_mi (o : Bool) (ns : List Int) : gSorted [.lst o (mL intD ns)] = some (.lst true (mL intD (srtI ns))) := gSorted_int o ns
@[simp] theorem gIn_mp (neg o : Bool) (x y : Int) (ps : List (Int × Int)) : gIn neg (.tup [.atm (.int x), .atm (.int y)]) (.lst o (mL pairD ps)) = some (.atm (.bl (if neg then !decide ((x, y) ∈ ps) else decide ((x, y) ∈ ps)))) := gIn_pairs neg o (x, y) ps
@[simp] theorem gSorted_mp (o : Bool) (ps : List (Int × Int)) : gSorted [.lst o (mL pairD ps)] = some (.lst true (mL pairD (srtP ps))) := gSorted_pair o ps
theorem cutX_take {α : Type} (xs : List α) (k : Nat) : cutX xs none (some (k : Int)) = xs.take k := by
  unfold cutX
  rw [HT.sIx_none, HT.sIx_nat]
  simp
@[simp] theorem gSl_mL {α : Type} {en : α → D} [FzE en] (o : Bool) (xs : List α) (k : Nat) : gSl none (some (k : Int)) (.lst o (mL en xs)) = some (.lst true (mL en (xs.take k))) := by
  unfold gSl
  simp only
  rw [cutX_take, fzns_mL, if_pos rfl, mL_take]
theorem filter_tt {α : Type} (l : List α) : l.filter (fun _ => true) = l := List.filter_eq_self.mpr fun _ _ => rfl
/-- a comprehension without a test -/
theorem lc_all {α β : Type} {g : Gv} {te : Ev} {vs : List Nat} {e0 : EnvD} {en : α → D} {en' : β → D} (xs : List α) (f : α → β) (e1 : α → EnvD)
    (hg : ∀ x, g (en x) e0 = some (e1 x)) (hw : ∀ x, wipeE (e1 x) vs = e0) (he : ∀ x ∈ xs, te (e1 x) = .ok (.val (en' (f x))) (e1 x)) (hl : xs.length ≤ 16777216) :
    lcD g tT te vs (mL en xs) [] e0 = .ok (mL en' (xs.map f)) e0 := by
  have := lc_map (g := g) (tt := tT) (te := te) (vs := vs) (e0 := e0) (en := en) (en' := en') xs (fun _ => true) f e1 hg hw (fun _ _ => rfl) (fun x hx _ => he x hx) hl
  rwa [filter_tt] at this
/-- a fold, the invariant with the number of turns -/
theorem forD_foldN {α σ : Type} {g : Gv} {b : Sv} {en : α → D} (st : σ → α → σ) (E : σ → EnvD) : ∀ (xs : List α) (s0 : σ) (I : Nat → σ → Prop) (n0 : Nat), I n0 s0 → (∀ n s x, x ∈ xs → n < n0 + xs.length → I n s → (∃ e1, g (en x) (E s) = some e1 ∧ b e1 = .ok .nx (E (st s x))) ∧ I (n + 1) (st s x)) → ∀ {e0}, e0 = E s0 → forD g b (mL en xs) e0 = .ok .nx (E (xs.foldl st s0)) ∧ I (n0 + xs.length) (xs.foldl st s0)
  | [], s0, I, n0, hi, h, _, rfl => ⟨rfl, hi⟩
  | x :: xs, s0, I, n0, hi, h, _, rfl => by
    obtain ⟨⟨e1, h1, h2⟩, h3⟩ := h n0 s0 x List.mem_cons_self (by simp) hi
    have ih := forD_foldN st E xs (st s0 x) I (n0 + 1) h3 (fun n s y hy hn => h n s y (List.mem_cons_of_mem _ hy) (by simp; omega)) rfl
    rw [mL_cons, List.foldl_cons, show n0 + (x :: xs).length = n0 + 1 + xs.length by simp; omega]
    conv => lhs; lhs; unfold forD
    rw [h1]
    simp only [h2, bind_ok]
    exact ih
/-! texts that are written -/
@[simp] theorem str_inj (s t : String) : (Str.ofString s = Str.ofString t) = (s = t) := by
  apply propext
  constructor
  · intro h
    rw [Str.ofString_eq_toList, Str.ofString_eq_toList] at h
    have h := congrArg (fun x : Str => x.cps.toList) h
    simp only at h
    have h2 : s.toList = t.toList := by
      have inj : ∀ {x y : Char}, x.toNat = y.toNat → x = y := fun {x y} e => Char.ext (UInt32.toNat_inj.mp e)
      exact List.map_inj_right (fun x y e => inj e) |>.mp h
    exact String.ext h2
  · rintro rfl
    rfl
@[simp] theorem str_beq (s t : String) : (Str.ofString s == Str.ofString t) = decide (s = t) := by
  by_cases h : s = t
  · subst h; simp
  · simp [h]
@[simp] theorem gCon_h {C : Addr} {f : Str} {v : L2.V} {o : Bool} {ns : List Str} {ds : List D} (h : ns.contains f = false) : gCon C f v (.ins o C ns ds) = some (.atm v) := by
  unfold gCon
  simp only [h, decide_true, Bool.not_false, Bool.and_self, if_true]
/-! isinstance of data -/
section
variable {b : Bool} {i : Int} {s : Str} {o : Bool} {ds : List D}
@[simp] theorem isT_bool_non : gIsT "bool" (.atm .non) = some (.atm (.bl false)) := (rfl)
@[simp] theorem isT_bool_bl : gIsT "bool" (.atm (.bl b)) = some (.atm (.bl true)) := (rfl)
@[simp] theorem isT_bool_int : gIsT "bool" (.atm (.int i)) = some (.atm (.bl false)) := (rfl)
@[simp] theorem isT_bool_str : gIsT "bool" (.atm (.str s)) = some (.atm (.bl false)) := (rfl)
@[simp] theorem isT_bool_lst : gIsT "bool" (.lst o ds) = some (.atm (.bl false)) := (rfl)
@[simp] theorem isT_bool_tup : gIsT "bool" (.tup ds) = some (.atm (.bl false)) := (rfl)
@[simp] theorem isT_int_non : gIsT "int" (.atm .non) = some (.atm (.bl false)) := (rfl)
@[simp] theorem isT_int_bl : gIsT "int" (.atm (.bl b)) = some (.atm (.bl true)) := (rfl)
@[simp] theorem isT_int_int : gIsT "int" (.atm (.int i)) = some (.atm (.bl true)) := (rfl)
@[simp] theorem isT_int_str : gIsT "int" (.atm (.str s)) = some (.atm (.bl false)) := (rfl)
@[simp] theorem isT_int_lst : gIsT "int" (.lst o ds) = some (.atm (.bl false)) := (rfl)
@[simp] theorem isT_int_tup : gIsT "int" (.tup ds) = some (.atm (.bl false)) := (rfl)
@[simp] theorem isT_str_non : gIsT "str" (.atm .non) = some (.atm (.bl false)) := (rfl)
@[simp] theorem isT_str_bl : gIsT "str" (.atm (.bl b)) = some (.atm (.bl false)) := (rfl)
@[simp] theorem isT_str_int : gIsT "str" (.atm (.int i)) = some (.atm (.bl false)) := (rfl)
@[simp] theorem isT_str_str : gIsT "str" (.atm (.str s)) = some (.atm (.bl true)) := (rfl)
@[simp] theorem isT_str_lst : gIsT "str" (.lst o ds) = some (.atm (.bl false)) := (rfl)
@[simp] theorem isT_str_tup : gIsT "str" (.tup ds) = some (.atm (.bl false)) := (rfl)
@[simp] theorem isT_list_non : gIsT "list" (.atm .non) = some (.atm (.bl false)) := (rfl)
@[simp] theorem isT_list_bl : gIsT "list" (.atm (.bl b)) = some (.atm (.bl false)) := (rfl)
@[simp] theorem isT_list_int : gIsT "list" (.atm (.int i)) = some (.atm (.bl false)) := (rfl)
@[simp] theorem isT_list_str : gIsT "list" (.atm (.str s)) = some (.atm (.bl false)) := (rfl)
@[simp] theorem isT_list_lst : gIsT "list" (.lst o ds) = some (.atm (.bl true)) := (rfl)
@[simp] theorem isT_list_tup : gIsT "list" (.tup ds) = some (.atm (.bl false)) := (rfl)
@[simp] theorem isT_tuple_non : gIsT "tuple" (.atm .non) = some (.atm (.bl false)) := (rfl)
@[simp] theorem isT_tuple_bl : gIsT "tuple" (.atm (.bl b)) = some (.atm (.bl false)) := (rfl)
@[simp] theorem isT_tuple_int : gIsT "tuple" (.atm (.int i)) = some (.atm (.bl false)) := (rfl)
@[simp] theorem isT_tuple_str : gIsT "tuple" (.atm (.str s)) = some (.atm (.bl false)) := (rfl)
@[simp] theorem isT_tuple_lst : gIsT "tuple" (.lst o ds) = some (.atm (.bl false)) := (rfl)
@[simp] theorem isT_tuple_tup : gIsT "tuple" (.tup ds) = some (.atm (.bl true)) := (rfl)
@[simp] theorem isN_non {n : Bool} : gIsN n (.atm .non) = some (.atm (.bl (!n))) := by cases n <;> rfl
@[simp] theorem isN_bl {n : Bool} : gIsN n (.atm (.bl b)) = some (.atm (.bl n)) := by cases n <;> rfl
@[simp] theorem isN_int {n : Bool} : gIsN n (.atm (.int i)) = some (.atm (.bl n)) := by cases n <;> rfl
@[simp] theorem isN_str {n : Bool} : gIsN n (.atm (.str s)) = some (.atm (.bl n)) := by cases n <;> rfl
@[simp] theorem isN_lst {n : Bool} : gIsN n (.lst o ds) = some (.atm (.bl n)) := (rfl)
@[simp] theorem isN_tup {n : Bool} : gIsN n (.tup ds) = some (.atm (.bl n)) := (rfl)
end
end VS
set_option Elab.async false
set_option linter.all false
set_option maxRecDepth 100000
set_option maxHeartbeats 2000000
namespace VS
open PySem L2
/-! ### lists of ints -/
def rI (lo : Int) (n : Nat) : List Int := (List.range n).map fun i => lo + (i : Nat)
theorem rngD_int (lo : Int) (n : Nat) : rngD lo n = mL intD (rI lo n) := by
  unfold rngD rI mL
  rw [List.map_map]
  rfl
@[simp] theorem rI_len (lo : Int) (n : Nat) : (rI lo n).length = n := by simp [rI]
theorem rI_get {lo : Int} {n i : Nat} (h : i < n) : (rI lo n)[i]? = some (lo + i) := by simp [rI, h]
theorem mem_rI {lo x : Int} {n : Nat} : x ∈ rI lo n ↔ lo ≤ x ∧ x < lo + n := by
  unfold rI
  rw [List.mem_map]
  constructor
  · rintro ⟨i, hi, rfl⟩
    have := List.mem_range.mp hi
    omega
  · rintro ⟨h1, h2⟩
    exact ⟨(x - lo).toNat, List.mem_range.mpr (by omega), by omega⟩
def aI (ls : List Int) (i : Int) : Int := ls.getD i.toNat 0
theorem gIx_at {o : Bool} {ls : List Int} {x : Int} (h0 : 0 ≤ x) (h1 : x < ls.length) : gIx (.lst o (mL intD ls)) (.atm (.int x)) = some (.atm (.int (aI ls x))) := by
  have h : x.toNat < ls.length := by omega
  refine gIx_lst h0 ?_ rfl
  rw [mL_get, List.getElem?_eq_getElem h]
  simp [aI, List.getD, List.getElem?_eq_getElem h]
section
variable {d d0 d1 d2 d3 : D} {ds : List D}
@[simp] theorem gIx_t0 : gIx (.tup (d :: ds)) (.atm (.int 0)) = if fzn d then some d else none := by simp [gIx, L2.atI, L2.ixN]
@[simp] theorem gIx_t1 : gIx (.tup (d0 :: d :: ds)) (.atm (.int 1)) = if fzn d then some d else none := by
  have : (1 : Int) < (ds.length : Int) + 1 + 1 := by omega
  simp [gIx, L2.atI, L2.ixN, this]
@[simp] theorem gIx_t2 : gIx (.tup (d0 :: d1 :: d :: ds)) (.atm (.int 2)) = if fzn d then some d else none := by
  have : (2 : Int) < (ds.length : Int) + 1 + 1 + 1 := by omega
  simp [gIx, L2.atI, L2.ixN, this]
@[simp] theorem gIx_t3 : gIx (.tup (d0 :: d1 :: d2 :: d :: ds)) (.atm (.int 3)) = if fzn d then some d else none := by
  have : (3 : Int) < (ds.length : Int) + 1 + 1 + 1 + 1 := by omega
  simp [gIx, L2.atI, L2.ixN, this]
@[simp] theorem gIx_t4 : gIx (.tup (d0 :: d1 :: d2 :: d3 :: d :: ds)) (.atm (.int 4)) = if fzn d then some d else none := by
  have : (4 : Int) < (ds.length : Int) + 1 + 1 + 1 + 1 + 1 := by omega
  simp [gIx, L2.atI, L2.ixN, this]
end
@[simp] theorem pairD_mk (x y : Int) : pairD (x, y) = .tup [.atm (.int x), .atm (.int y)] := rfl
/-! ### pop -/
theorem popAt_ok {ds : List D} {j : Int} (h0 : 0 ≤ j) (h1 : j < ds.length) (h2 : ds.length < 16777216) : ∃ d, ds[j.toNat]? = some d ∧ mPopAt ds [.atm (.int j)] = some (ds.eraseIdx j.toNat, d) := by
  have h : j.toNat < ds.length := by omega
  refine ⟨ds[j.toNat], List.getElem?_eq_getElem h, ?_⟩
  have e : seqIndex? j ds.length = some j.toNat := by
    unfold seqIndex?
    simp
    omega
  have b1 : -(2 ^ 63) ≤ j := by omega
  have b2 : j < 2 ^ 63 := by omega
  unfold mPopAt
  simp only [b1, b2, e, decide_true, Bool.and_self, if_true, List.getElem?_eq_getElem h]
theorem erase_permI {α : Type} : ∀ (l : List α) (k : Nat) (x : α), l[k]? = some x → (x :: l.eraseIdx k).Perm l
  | [], k, x, h => by simp at h
  | a :: l, 0, x, h => by simp at h; subst h; simp
  | a :: l, k + 1, x, h => by
    have := erase_permI l k x (by simpa using h)
    rw [List.eraseIdx_cons_succ]
    exact (List.Perm.swap _ _ _).trans (this.cons a)
theorem pop_map {α : Type} {en : α → D} {ps : List α} {j : Int} (h0 : 0 ≤ j) (h1 : j < ps.length) (h2 : ps.length < 16777216) : ∃ p, ps[j.toNat]? = some p ∧ (p :: ps.eraseIdx j.toNat).Perm ps ∧ mPopAt (mL en ps) [.atm (.int j)] = some (mL en (ps.eraseIdx j.toNat), en p) := by
  obtain ⟨d, e1, e2⟩ := popAt_ok (ds := mL en ps) h0 (by simpa using h1) (by simpa using h2)
  rw [mL_get] at e1
  cases e : ps[j.toNat]? with
  | none => rw [e] at e1; cases e1
  | some p =>
    rw [e] at e1
    cases e1
    exact ⟨p, rfl, erase_permI _ _ _ e, by rw [e2, mL_erase]⟩
end VS
set_option Elab.async false
set_option linter.all false
set_option maxRecDepth 100000
set_option maxHeartbeats 2000000
namespace VS
open PySem PySem.Spec PyProof.Rows L2
/-! ### own ==, in, len, str, isinstance of instances that stand -/
section
variable {X : Cx} {pins : List (Addr × Obj)} {σ : L2.St} {H : Hp} {s : Shared} {a C dx f : Addr} {fs : List (Str × V)} {k n : Nat} {sp : Sp} {fd : FuncData} {ps : List Str} {CX : CXT}
theorem inst_of (I : Inv X pins σ H s) (h : H a = some (.ins C dx fs)) : ∃ od, PySem.W.InstAt s.heap a (PySem.W.instObj C dx) C (some od) := by
  obtain ⟨mA, O, _⟩ := ins_get I.hok h
  obtain ⟨od, J, _⟩ := O.look
  exact ⟨od, J⟩
theorem run_atS {A : Around} {Q : VK} {us : List Value} {vs : List V} {E : XK} (F : FnOk X.prog X.w X.K X.mg X.base CX k f fd ps sp) (hr : Room k A) (e0 : Env0 X.prog X.w X.K X.mg X.base A X.stack s H) (hb : Binds X.K fd ps []) (hx : PassesAt CX X σ E)
    (I : Inv X pins σ H s) (r : Vals vs us) (h : sp vs H Q E) : wpAny (model X.prog X.w) A (call (.ref f) us) (EP X pins σ Q) X.xe s := by
  have hl : us.length = ps.length := by rw [← r.length]; exact F.len _ _ _ _ h
  have b := hb s us I.kIn (by rw [List.append_nil]; exact hl)
  rw [List.append_nil] at b
  refine wpAny_call (codeAny_mono (F.run A X.stack s H ⟨us, []⟩ us vs Q E hr e0 b r h) fun r s' hq => ?_)
  cases r with
  | error e => exact hx pins H s e s' I hq
  | ok fl =>
    cases fl with
    | ret u => exact I.after hq
    | next => exact False.elim hq
    | brk => exact False.elim hq
    | cont => exact False.elim hq
end
variable {X : Cx} {W : WX} {P : List Nat}
abbrev E0 : XK := fun _ _ _ => False
theorem pass00 (σ : L2.St) : PassesAt (L2.CX X.prog X.w) X σ E0 := passAt (W := fun _ _ _ _ => False) takes0 σ
/-- an own def of things that stand: it raises nothing, and what stands stays -/
def ownD (n : Nat) (g : Fv) (ds : List D) : Option D := if ds.length = n && fzns ds then match g ds with
    | .ok z _ => some z
    | _ => none
  else none
theorem mem_dup {H : Hp} {d : D} {v : V} {L : List Ent} (h : SI H L) (m : (d, some v) ∈ L) (f : fzn d = true) : SI H ((d, some v) :: L) := by
  obtain ⟨l1, l2, e⟩ := List.append_of_mem m
  subst e
  have h1 := (h.perm List.perm_middle).dup f
  exact h1.perm (List.perm_middle.symm.cons _)
theorem mems_dup {H : Hp} {L : List Ent} : ∀ {ds : List D} {vs : List V}, SI H L → Mems L ds vs → fzns ds = true → SI H (ds.zip (vs.map some) ++ L) ∧ ds.length = vs.length
  | [], [], h, _, _ => ⟨h, rfl⟩
  | [], _ :: _, h, m, _ => m.elim
  | _ :: _, [], h, m, _ => m.elim
  | d :: ds, v :: vs, h, m, f => by
    have f : fzn d = true ∧ fzns ds = true := by simpa [fzns] using f
    obtain ⟨h1, h2⟩ := mems_dup h m.2 f.2
    exact ⟨mem_dup h1 (List.mem_append_right _ m.1) f.1, by simp [h2]⟩
theorem own_sp {n : Nat} {g : Fv} {H : Hp} {L : List Ent} {ds : List D} {vs : List V} {z : D} {Q : VK} (h : SI H L) (m : Mems L ds vs) (e : ownD n g ds = some z) (q : ∀ u H', SI H' ((z, some u) :: L) → Q u H') : spD n g vs H Q E0 := by
  unfold ownD at e
  split at e
  · rename_i c
    simp only [Bool.and_eq_true, decide_eq_true_eq] at c
    obtain ⟨h1, h2⟩ := mems_dup h m c.2
    refine ⟨by rw [← h2]; exact c.1, ds, L, h2, h1, ?_⟩
    split at e
    · rename_i z' fin eg
      cases e
      rw [eg]
      intro v H' hs
      refine q v H' (SI.mid (A := [(z, some v)]) (B := fin.zip (vs.map some)) (L := L) (by simpa using hs))
    · cases e
  · cases e
/-! classes with such a def -/
inductive OwnS (X : Cx) (m : Str) (n kk : Nat) : List (Addr × Fv) → Prop where
  | nil : OwnS X m n kk []
  | cons {cn : Str} {k : Nat} {ps : List Str} {g : Fv} {os : List (Addr × Fv)} (mt : Meth X.K (He.ga X.K cn) m (He.fAd X.K (cn, some m))) (F : FOk X.prog X.w X.K X.mg X.base k (cn, some m) ps n g) (hk : k ≤ kk) (t : OwnS X m n kk os) : OwnS X m n kk ((He.ga X.K cn, g) :: os)
def ownL : List (Addr × Fv) → Addr → Option Fv
  | [], _ => none
  | (C, g) :: r, c => if c = C then some g else ownL r c
theorem OwnS.get {X : Cx} {m : Str} {n kk : Nat} {os : List (Addr × Fv)} {c : Addr} {g : Fv} (h : OwnS X m n kk os) (e : ownL os c = some g) : ∃ (cn : Str) (k : Nat) (ps : List Str), c = He.ga X.K cn ∧ Meth X.K c m (He.fAd X.K (cn, some m)) ∧ FOk X.prog X.w X.K X.mg X.base k (cn, some m) ps n g ∧ k ≤ kk := by
  induction h with
  | nil => cases e
  | cons mt F hk t ih =>
    unfold ownL at e
    split at e
    · rename_i hc
      cases e
      subst hc
      exact ⟨_, _, _, rfl, mt, F, hk⟩
    · exact ih e
/-- the object at a, of the class at C, has g -/
structure OwnR (X : Cx) (m : Str) (n kk : Nat) (os : List (Addr × Fv)) (C : Addr) (g : Fv) : Prop where
  e : ownL os C = some g
/-! == -/
def gEqA (os : List (Addr × Fv)) : D → D → Option D := fun x y => match x, y with
  | .ins o c ns ds, .ins o' c' ns' ds' => if c = c' then match ownL os c with
      | some g => ownD 2 g [.ins o c ns ds, .ins o' c' ns' ds']
      | none => none
    else none
  | x, y => gEq false x y
def rEqO (os : List (Addr × Fv)) : R2 := fun x y H Q => ∃ a dx fs b dy gs C g, x = .ref a ∧ y = .ref b ∧ H a = some (.ins C dx fs) ∧ H b = some (.ins C dy gs) ∧ ownL os C = some g ∧ spD 2 g [x, y] H Q E0
theorem op_eqO {kk : Nat} {os : List (Addr × Fv)} (S : OwnS X "__eq__" 2 kk os) (hr : Room kk X.A) : OpR X (compareOp .Eq) (rEqO os) := by
  intro pins s σ H x y v u Q I rx ry h
  obtain ⟨a, dx, fs, b, dy, gs, C, g, rfl, rfl, ha, hb, hg, q⟩ := h
  obtain ⟨cn, k, ps, rfl, m, F, hk⟩ := S.get hg
  cases (show v = Value.ref a from rx)
  cases (show u = Value.ref b from ry)
  obtain ⟨od, J⟩ := inst_of I ha
  obtain ⟨od', J'⟩ := inst_of I hb
  obtain ⟨m1, hF⟩ := I.fr
  obtain ⟨fd, F, hb, _⟩ := F
  show wpAny _ _ (richCompare .Eq (.ref a) (.ref b)) _ _ _
  refine PySem.W.cmp_K (op := .Eq) (tb := .ref (He.ga X.K cn)) hr.units0 hF I.ok.mod.kin J J'.type ?_ m.at_ m.fn ?_
  · unfold PySem.W.notFirst
    simp
  · refine wpAny_mono (run_fnS (us := [.ref a, .ref b]) (vs := [.ref a, .ref b]) (E := fun _ => E0) F (hr.mono hk) hb (pass00 σ) I (.cons rfl (.cons rfl .nil)) q) (fun w s' z => ?_) fun _ _ x => x
    obtain ⟨z', H', I', rz, qz⟩ := z
    exact SlX.cmpback rz ⟨z', H', I', rz, qz⟩
def rEqA (Kf : PySem.W.Frag) (os : List (Addr × Fv)) : R2 := fun x y H Q => rEqD Kf x y H Q ∨ rEqO os x y H Q
theorem o_eqA {kk : Nat} {os : List (Addr × Fv)} (S : OwnS X "__eq__" 2 kk os) (hr : Room kk X.A) (hu : X.A.units + 65 < cLine) : OpR X (compareOp .Eq) (rEqA X.K os) ∧ Op2 (rEqA X.K os) (gEqA os) := by
  constructor
  · intro pins s σ H x y v u Q I rx ry h
    rcases h with h | h
    · exact (o_eq hu).1 pins s σ H x y v u Q I rx ry h
    · exact op_eqO S hr pins s σ H x y v u Q I rx ry h
  · intro H L x y dx dy z Q s mx my hz q
    have old : gEq false dx dy = some z → rEqA X.K os x y H Q := fun hz => .inl ((op2_eq X.K) H L x y dx dy z Q s mx my hz q)
    unfold gEqA at hz
    split at hz
    · rename_i o c ns ds o' c' ns' ds'
      split at hz
      · rename_i hc
        subst hc
        split at hz
        · rename_i g hg
          obtain ⟨a, dxx, vs, rfl, ha, _⟩ := (s.pkm mx).ins
          obtain ⟨b, dyy, ws, rfl, hb, _⟩ := (s.pkm my).ins
          exact .inr ⟨a, dxx, _, b, dyy, _, _, g, rfl, rfl, ha, hb, hg, own_sp (ds := [_, _]) s ⟨mx, my, trivial⟩ hz q⟩
        · cases hz
      · cases hz
    · exact old hz
/-! in -/
theorem contains_K {prog : Program} {w : World} {A : Around} {E : Value → Shared → Prop} {s : Shared} {K : PySem.W.Frag} {x C f : Addr} {ox : Obj} {od : Option Obj} {y : Value} {Q : Bool → Shared → Prop} (X : K.In s.heap) (J : PySem.W.InstAt s.heap x ox C od) (hs : PySem.W.findIn K (.ref C) "__contains__" = some (some (.ref f))) (hf : PySem.W.isFn K (.ref f) = true)
    (h : wpAny (model prog w) A (call (.ref f) [.ref x, y]) (PySem.W.BoolBack Q) E s) : wpAny (model prog w) A (contains (.ref x) y) Q E s := by
  unfold contains
  refine wpAny_holding ?_
  refine wpAny_bind (wpAny_bind (J.type.here ((PySem.W.looks_findIn X hs).here ?_)))
  show wpAny _ _ (if (some (Value.ref f) == some Value.none) = true then _ else _) _ _ _
  rw [if_neg (by simp)]
  unfold callSpecialUnlessNone?
  refine wpAny_bind (wpAny_bind (wpAny_bind (J.type.here ((PySem.W.looks_findIn X hs).here (wpAny_holding (wpAny_bind ((PySem.W.bind_fn X _ (beq_iff_eq.mp hf)).here ?_)))))))
  show wpAny _ _ (if (Value.ref f == Value.none) = true then _ else _) _ _ _
  rw [if_neg (by simp)]
  refine wpAny_bind (wpAny_mono h (fun v s' z => ?_) fun _ _ z => z)
  cases v <;> first | exact z.elim | skip
  exact wpAny_pure (wpAny_truthy_bool z)
def gInA (os : List (Addr × Fv)) : D → D → Option D := fun x y => match y with
  | .ins o c ns ds => match ownL os c with
    | some g => match ownD 2 g [.ins o c ns ds, x] with
      | some (.atm (.bl b)) => some (.atm (.bl b))
      | _ => none
    | none => none
  | y => gIn false x y
def rInO (os : List (Addr × Fv)) : R2 := fun x y H Q => ∃ a dx fs C g, y = .ref a ∧ H a = some (.ins C dx fs) ∧ ownL os C = some g ∧ spD 2 g [y, x] H (fun v H' => ∃ b, v = .bl b ∧ Q (.bl b) H') E0
theorem op_inO {kk : Nat} {os : List (Addr × Fv)} (S : OwnS X "__contains__" 2 kk os) (hr : Room kk X.A) : OpR X (compareOp .In) (rInO os) := by
  intro pins s σ H x y v u Q I rx ry h
  obtain ⟨a, dx, fs, C, g, rfl, ha, hg, q⟩ := h
  obtain ⟨cn, k, ps, rfl, m, F, hk⟩ := S.get hg
  cases (show u = Value.ref a from ry)
  obtain ⟨od, J⟩ := inst_of I ha
  obtain ⟨fd, F, hb, _⟩ := F
  show wpAny _ _ (contains (.ref a) v >>= fun b => pure (Value.bool b)) _ _ _
  refine wpAny_bind (contains_K I.kIn J m.at_ m.fn (wpAny_mono (run_fnS (us := [.ref a, v]) (vs := [.ref a, x]) (E := fun _ => E0) F (hr.mono hk) hb (pass00 σ) I (.cons rfl (.cons rx .nil)) q) (fun w s' z => ?_) fun _ _ x => x))
  obtain ⟨z', H', I', rz, b, rfl, qz⟩ := z
  cases (show w = Value.bool b from rz)
  exact wpAny_pure ⟨.bl b, H', I', rfl, qz⟩
def rInA (Kf : PySem.W.Frag) (os : List (Addr × Fv)) : R2 := fun x y H Q => rInD Kf x y H Q ∨ rInO os x y H Q
theorem o_inA {kk : Nat} {os : List (Addr × Fv)} (S : OwnS X "__contains__" 2 kk os) (hr : Room kk X.A) (hu : X.A.units + 65 < cLine) : OpR X (compareOp .In) (rInA X.K os) ∧ Op2 (rInA X.K os) (gInA os) := by
  constructor
  · intro pins s σ H x y v u Q I rx ry h
    rcases h with h | h
    · exact (o_in hu).1 pins s σ H x y v u Q I rx ry h
    · exact op_inO S hr pins s σ H x y v u Q I rx ry h
  · intro H L x y dx dy z Q s mx my hz q
    have old : gIn false dx dy = some z → rInA X.K os x y H Q := fun hz => .inl ((op2_in X.K) H L x y dx dy z Q s mx my hz q)
    unfold gInA at hz
    split at hz
    · rename_i o c ns ds
      split at hz
      · rename_i g hg
        split at hz
        · rename_i b hb
          cases hz
          obtain ⟨a, dxx, vs, rfl, ha, _⟩ := (s.pkm my).ins
          refine .inr ⟨a, dxx, _, c, g, rfl, ha, hg, own_sp (ds := [_, _]) s ⟨my, mx, trivial⟩ hb fun u H' s' => ?_⟩
          have e := s'.pk.atm
          subst e
          exact ⟨b, rfl, q _ H' s'⟩
        · cases hz
      · cases hz
    · exact old hz
/-! len -/
def gLenA (os : List (Addr × Fv)) : List D → Option D := fun ds => match ds with
  | [.ins o c ns ds'] => match ownL os c with
    | some g => match ownD 1 g [.ins o c ns ds'] with
      | some (.atm (.int i)) => if decide (0 ≤ i) && decide (i < 2 ^ 63) then some (.atm (.int i)) else none
      | _ => none
    | none => none
  | ds => gLen ds
def rLenO (os : List (Addr × Fv)) : List V → Hp → VK → Prop := fun xs H Q => ∃ a dx fs C g, xs = [.ref a] ∧ H a = some (.ins C dx fs) ∧ ownL os C = some g ∧ spD 1 g xs H (fun v H' => ∃ i, v = .int i ∧ (0 ≤ i ∧ i < 2 ^ 63) ∧ Q (.int i) H') E0
theorem call_lenO {kk : Nat} {os : List (Addr × Fv)} (S : OwnS X "__len__" 1 kk os) (hr : Room (kk + 1) X.A) : CallR X (.builtin "len") (rLenO os) := by
  intro pins s σ H xs us Q I r h
  obtain ⟨a, dx, fs, C, g, rfl, ha, hg, q⟩ := h
  obtain ⟨cn, k, ps, rfl, m, F, hk⟩ := S.get hg
  obtain ⟨u, rfl, ru⟩ := r.one
  cases (show u = Value.ref a from ru)
  obtain ⟨od, J⟩ := inst_of I ha
  obtain ⟨m1, hF⟩ := I.fr
  obtain ⟨fd, F, hb, _⟩ := F
  refine PySem.W.len_K hF I.ok.mod.kin J m.at_ m.fn (wpAny_mono (run_atS (us := [.ref a]) (vs := [.ref a]) F ((Room.in1 hr).mono hk) I.env0.in1 hb (pass00 σ) I (.cons rfl .nil) q) (fun w s' z => ?_) fun _ _ x => x)
  obtain ⟨z', H', I', rz, i, rfl, hi, qz⟩ := z
  obtain ⟨t, rfl⟩ := (show ∃ t, w = Value.int i t from rz)
  exact ⟨hi, .int i, H', I'.tok _, ⟨_, rfl⟩, qz⟩
def rLenL (Kf : PySem.W.Frag) : List V → Hp → VK → Prop := fun xs H Q => ∃ p ys, xs = [.ref p] ∧ (SqL Kf H p ys ∨ SqT Kf H p ys) ∧ Q (.int ys.length) H
theorem b_lenA {kk : Nat} {os : List (Addr × Fv)} (S : OwnS X "__len__" 1 kk os) (hr : Room (kk + 1) X.A) : CallR X (.builtin "len") (fun xs H Q => rLenL X.K xs H Q ∨ rLenO os xs H Q) ∧ OpN (fun xs H Q => rLenL X.K xs H Q ∨ rLenO os xs H Q) (gLenA os) := by
  constructor
  · intro pins s σ H xs us Q I r h
    rcases h with h | h
    · exact b_len.1 pins s σ H xs us Q I r h
    · exact call_lenO S hr pins s σ H xs us Q I r h
  · intro H L xs ds z Q s m hz q
    have old : gLen ds = some z → rLenL X.K xs H Q ∨ rLenO os xs H Q := fun hz => .inl (b_len.2 H L xs ds z Q s m hz q)
    unfold gLenA at hz
    split at hz
    · rename_i o c ns ds'
      split at hz
      · rename_i g hg
        split at hz
        · rename_i i hb
          split at hz
          · rename_i hi
            cases hz
            simp only [Bool.and_eq_true, decide_eq_true_eq] at hi
            obtain ⟨v, rfl, mv⟩ := mems1 m
            obtain ⟨a, dxx, vs, rfl, ha, _⟩ := (s.pkm mv).ins
            refine .inr ⟨a, dxx, _, c, g, rfl, ha, hg, own_sp (ds := [_]) s m hb fun u H' s' => ?_⟩
            have e := s'.pk.atm
            subst e
            exact ⟨i, rfl, hi, q _ H' s'⟩
          · cases hz
        · cases hz
      · cases hz
    · exact old hz
/-! str -/
def strI (i : Int) : Str := Str.ofString (toString i)
def gStrA (os : List (Addr × Fv)) : List D → Option D := fun ds => match ds with
  | [.atm (.int i)] => if i.natAbs.log2 < 1920 then some (.atm (.str (strI i))) else none
  | [.ins o c ns ds'] => match ownL os c with
    | some g => match ownD 1 g [.ins o c ns ds'] with
      | some (.atm (.str x)) => some (.atm (.str x))
      | _ => none
    | none => none
  | _ => none
def rStrI : List V → Hp → VK → Prop := fun xs H Q => ∃ i, xs = [.int i] ∧ i.natAbs.log2 < 1920 ∧ Q (.str (strI i)) H
def rStrO (os : List (Addr × Fv)) : List V → Hp → VK → Prop := fun xs H Q => ∃ a dx fs C g, xs = [.ref a] ∧ H a = some (.ins C dx fs) ∧ ownL os C = some g ∧ spD 1 g xs H (fun v H' => ∃ y, v = .str y ∧ Q (.str y) H') E0
theorem call_strO {kk : Nat} {os : List (Addr × Fv)} (S : OwnS X "__str__" 1 kk os) (hr : Room (kk + 2) X.A) : CallR X (.type "str") (rStrO os) := by
  intro pins s σ H xs us Q I r h
  obtain ⟨a, dx, fs, C, g, rfl, ha, hg, q⟩ := h
  obtain ⟨cn, k, ps, rfl, m, F, hk⟩ := S.get hg
  obtain ⟨u, rfl, ru⟩ := r.one
  cases (show u = Value.ref a from ru)
  obtain ⟨od, J⟩ := inst_of I ha
  obtain ⟨fd, F, hb, _⟩ := F
  have hr2 : Room kk X.A.in1.in1 := (show Room (kk + 1) X.A.in1 from Room.in1 hr).in1
  refine PySem.W.kso_call hr2.units0 I.kIn J m.at_ m.fn (wpAny_mono (run_atS (us := [.ref a]) (vs := [.ref a]) F (hr2.mono hk) I.env0.in1.in1 hb (pass00 σ) I (.cons rfl .nil) q) (fun w s' z => ?_) fun _ _ x => x)
  obtain ⟨z', H', I', rz, y, rfl, qz⟩ := z
  obtain ⟨t, rfl⟩ := (show ∃ t, w = Value.str y t from rz)
  exact ⟨.str y, H', I', ⟨_, rfl⟩, qz⟩
theorem b_strA {kk : Nat} {os : List (Addr × Fv)} (S : OwnS X "__str__" 1 kk os) (hr : Room (kk + 2) X.A) : CallR X (.type "str") (fun xs H Q => rStrI xs H Q ∨ rStrO os xs H Q) ∧ OpN (fun xs H Q => rStrI xs H Q ∨ rStrO os xs H Q) (gStrA os) := by
  constructor
  · intro pins s σ H xs us Q I r h
    rcases h with h | h
    · exact call_str_int pins s σ H xs us Q I r h
    · exact call_strO S hr pins s σ H xs us Q I r h
  · intro H L xs ds z Q s m hz q
    unfold gStrA at hz
    split at hz
    · rename_i i
      split at hz
      · rename_i hi
        cases hz
        obtain ⟨v, rfl, mv⟩ := mems1 m
        have e := (s.pkm mv).atm
        subst e
        exact .inl ⟨i, rfl, hi, q _ H (s.atm nr_str)⟩
      · cases hz
    · rename_i o c ns ds'
      split at hz
      · rename_i g hg
        split at hz
        · rename_i x hb
          cases hz
          obtain ⟨v, rfl, mv⟩ := mems1 m
          obtain ⟨a, dxx, vs, rfl, ha, _⟩ := (s.pkm mv).ins
          refine .inr ⟨a, dxx, _, c, g, rfl, ha, hg, own_sp (ds := [_]) s m hb fun u H' s' => ?_⟩
          have e := s'.pk.atm
          subst e
          exact ⟨x, rfl, q _ H' s'⟩
        · cases hz
      · cases hz
    · cases hz
/-! isinstance of an own class: an instance of that very class -/
def gIsO (C : Addr) : D → Option D
  | .ins _ c _ _ => if c = C then some (.atm (.bl true)) else none
  | _ => none
def rIsO (C : Addr) : List V → Hp → VK → Prop := fun xs H Q => ∃ a dx fs, xs = [.ref a, .ref C] ∧ H a = some (.ins C dx fs) ∧ Q (.bl true) H
theorem ej_isO {C : Addr} {n : Str} {e : Expr} {fe : Ev} {p p2 pos : Pos} (c : C8.InsC X.K C) (hm : X.mg "isinstance" = none) (hmt : X.mg n = some (.ref C)) (he : EJ X W e fe) (hg : Gl X "isinstance" := by rfl) (hgt : Gl X n := by rfl) (hnd : (n == ("__debug__" : Str)) = false := by decide)
    (hst : starEach (e :: [.Name n p2]) X.env = (false, eval e X.env) :: starEach [.Name n p2] X.env := by rfl) (hst2 : starEach (.Name n p2 :: []) X.env = (false, eval (.Name n p2) X.env) :: starEach [] X.env := by rfl) (hpl : (backTo pos (starEach [.Name n p2] X.env)).any (·.1) = false := by rfl) :
    EJ X W (.Call (.Name "isinstance" p) [e, .Name n p2] [] pos) (eU (gIsO C) fe) := by
  obtain ⟨t, q, k⟩ := he
  refine ⟨_, pe_callB (C8.call_isC c) hg hm PyProof.Rows.boot_isinstance (pa_cons q (pa_cons (pe_glob (v := .ref C) hgt hmt rfl hnd) pa_nil hst2) hst) (by decide) (by decide) hst hpl, fun env σ K H Q s h => ?_⟩
  refine k env σ K H _ s (MPost.mono (MPost.bind0 h) fun ra e1 h1 x H1 s1 o1 => ?_)
  cases px : peek ra e1 with
  | none => simp only [px] at h1; exact h1.elim
  | some d =>
    simp only [px] at h1
    have m := mem_peek (L := ra.ent x ++ K ++ e1.zip σ) (e := e1) (σ := σ) o1 (fun p hp => by simp [hp]) (fun p hp => by simp [hp]) px
    unfold gIsO at h1
    split at h1
    · rename_i o c' ns ds
      split at h1
      · rename_i hc
        subst hc
        obtain ⟨a, dxx, vs, rfl, ha, _⟩ := (s1.si.pkm m).ins
        exact ⟨a, dxx, _, rfl, ha, h1 _ H1 ⟨s1.len, (SI.drops (M := ra.ent (.ref a)) (by have := s1.si; rwa [List.append_assoc] at this)).atm nr_bl⟩ trivial⟩
      · exact h1.elim
    · exact h1.elim
/-! texts -/
def gAddS : D → D → Option D
  | .atm (.str x), .atm (.str y) => if x.length + y.length ≤ 16777216 then some (.atm (.str (x ++ y))) else none
  | x, y => gAdd x y
def rAddSA : R2 := fun x y H Q => rAddA x y H Q ∨ ∃ i j, x = .str i ∧ y = .str j ∧ i.length + j.length ≤ sizeLine ∧ Q (.str (i ++ j)) H
theorem op_addSA : OpR X (binaryOp .Add) rAddSA := by
  intro pins s σ H x y v u Q I rx ry h
  rcases h with h | h
  · exact op_addA pins s σ H x y v u Q I rx ry h
  · exact op_add_str pins s σ H x y v u Q I rx ry h
theorem op2_addS : Op2 rAddSA gAddS := by
  intro H L x y dx dy z Q s mx my hz q
  have old : gAdd dx dy = some z → rAddSA x y H Q := fun hz => .inl (op2_add H L x y dx dy z Q s mx my hz q)
  unfold gAddS at hz
  split at hz
  · rename_i a b
    split at hz
    · rename_i c
      cases hz
      exact .inr ⟨a, b, (s.pkm mx).atm, (s.pkm my).atm, by rw [sizeLine_eq]; exact c, q _ H (s.atm nr_str)⟩
    · cases hz
  · exact old hz
theorem ej_addS {a b : Expr} {fa fb : Ev} {pos : Pos} (ha : EJ X W a fa) (hb : EJ X W b fb) : EJ X W (.BinOp a .Add b pos) (eOp gAddS fa fb) := ej_op op_addSA op2_addS ha hb
/-- f'..' : the parts are texts, names of ints and texts -/
def fmtD : D → Option Str
  | .atm (.int i) => if i.natAbs.log2 < 1920 then some (strI i) else none
  | .atm (.str x) => if x.length ≤ 16777216 then some x else none
  | _ => none
abbrev Jv := EnvD → M Str
/-- the text so far and the parts that follow -/
def jNil (acc : Str) : Jv := fun e => .ok acc e
def jCons (f : Ev) (rest : Str → Jv) (acc : Str) : Jv := fun e => (f e).bind fun r e1 => match peek r e1 with
  | some d => match fmtD d with
    | some y => if (acc ++ y).length ≤ 16777216 then rest (acc ++ y) e1 else .no
    | none => .no
  | none => .no
def JOk (W : WX) (ts : List TE) (f : Str → Jv) : Prop := ∀ acc env σ K H Q, Stt H K env σ → MPost W K σ (fun out e => ∀ H', Stt H' K e σ → Q out H') (f acc env) → tJs ts acc σ H Q
structure JJ (X : Cx) (W : WX) (es : List Expr) (f : Str → Jv) : Prop where
  ex : ∃ ts, PJ X es ts ∧ JOk W ts f
theorem jj_nil : JJ X W [] jNil := ⟨[], .nil, fun acc env σ K H Q s h => h H s⟩
theorem jj_fmt {e : Expr} {es : List Expr} {f : Ev} {rest : Str → Jv} {pos : Pos} (he : EJ X W e f) (hr : JJ X W es rest) : JJ X W (.FormattedValue e (-1) none pos :: es) (jCons f rest) := by
  obtain ⟨t, p, k⟩ := he
  obtain ⟨ts, ps, ks⟩ := hr
  refine ⟨_, .cons (pe_fmt p) ps, fun acc env σ K H Q s h => ?_⟩
  refine k env σ K H _ s (MPost.mono (MPost.bind0 h) fun r e1 h1 v H1 s1 o1 => ?_)
  cases px : peek r e1 with
  | none => simp only [px] at h1; exact h1.elim
  | some d =>
    simp only [px] at h1
    have m := mem_peek (L := r.ent v ++ K ++ e1.zip σ) (e := e1) (σ := σ) o1 (fun p hp => by simp [hp]) (fun p hp => by simp [hp]) px
    have s2 : Stt H1 K e1 σ := s1.drops
    cases ef : fmtD d with
    | none => simp only [ef] at h1; exact h1.elim
    | some y =>
      simp only [ef] at h1
      split at h1
      · rename_i hl
        have hl' : (acc ++ y).length ≤ sizeLine := by rw [sizeLine_eq]; exact hl
        unfold fmtD at ef
        split at ef
        · rename_i i
          split at ef
          · rename_i hi
            cases ef
            exact .inr ⟨i, (s1.si.pkm m).atm, hi, _, rfl, hl', ks _ e1 σ K H1 Q s2 h1⟩
          · cases ef
        · rename_i x
          split at ef
          · rename_i hx
            cases ef
            exact .inl ⟨_, (s1.si.pkm m).atm, by rw [sizeLine_eq]; exact hx, _, rfl, hl', ks _ e1 σ K H1 Q s2 h1⟩
          · cases ef
        · cases ef
      · exact h1.elim
theorem jj_str {x : Str} {j : Nat} {es : List Expr} {rest : Str → Jv} {pos : Pos} (hr : JJ X W es rest) : JJ X W (.Constant (.str x) j pos :: es) (jCons (eC (.str x)) rest) := by
  obtain ⟨ts, ps, ks⟩ := hr
  refine ⟨_, .cons pe_str ps, fun acc env σ K H Q s h => ?_⟩
  have h : MPost W K σ (fun out e => ∀ H', Stt H' K e σ → Q out H') (match fmtD (.atm (.str x)) with
    | some y => if (acc ++ y).length ≤ 16777216 then rest (acc ++ y) env else .no
    | none => .no) := h
  unfold fmtD at h
  by_cases hx : x.length ≤ 16777216
  · simp only [hx, if_true] at h
    split at h
    · rename_i hl
      exact ⟨x, rfl, by rw [sizeLine_eq]; exact hl, ks _ env σ K H Q s h⟩
    · exact h.elim
  · simp only [hx, if_false] at h
    exact h.elim
def eJs (f : Str → Jv) : Ev := fun e => (f Str.empty e).bind fun out e1 => .ok (.val (.atm (.str out))) e1
theorem ej_fstr {v1 v2 : Expr} {rest : List Expr} {f : Str → Jv} {pos : Pos} (h : JJ X W (v1 :: v2 :: rest) f) : EJ X W (.JoinedStr (v1 :: v2 :: rest) pos) (eJs f) := by
  obtain ⟨ts, ps, ks⟩ := h
  exact ⟨_, pe_joined ps, fun env σ K H Q s h => ks _ env σ K H _ s (MPost.mono (MPost.bind0 h) fun out e1 h1 H1 s1 => h1 _ H1 ⟨s1.len, SI.atm s1.si nr_str⟩ trivial)⟩
/-! 'sep'.join(list of texts) -/
def strsD : List D → Option (List Str)
  | [] => some []
  | .atm (.str x) :: r => match strsD r with
    | some xs => some (x :: xs)
    | none => none
  | _ => none
theorem strsD_vals {H : Hp} : ∀ {ds : List D} {bs : List Str} {vs : List V}, strsD ds = some bs → PkL H ds vs → vs = bs.map V.str
  | [], bs, vs, e, p => by
    cases e
    have := p.1
    cases vs with
    | nil => rfl
    | cons v vs => cases this
  | .atm (.str x) :: r, bs, vs, e, p => by
    unfold strsD at e
    cases h : strsD r with
    | none => rw [h] at e; cases e
    | some xs =>
      rw [h] at e
      cases e
      obtain ⟨hl, hp⟩ := p
      cases vs with
      | nil => cases hl
      | cons v vs =>
        obtain ⟨w, e1, e2⟩ := hp 0 _ rfl
        cases e1
        have := e2.atm
        subst this
        have ih := strsD_vals (vs := vs) h ⟨by simpa using hl, fun i d hd => by
          have := hp (i + 1) d (by simpa using hd)
          simpa using this⟩
        rw [List.map_cons, ih]
def gJoin (sep : Str) : D → Option D
  | .lst _ ds => match strsD ds with
    | some ys => if (ys.map (·.length)).sum + ys.length * sep.length ≤ 16777216 then some (.atm (.str (Txt.join sep ys))) else none
    | none => none
  | _ => none
theorem ej_join {sep : Str} {j : Nat} {p0 : Pos} {e : Expr} {fe : Ev} {apos pos : Pos} (he : EJ X W e fe) (hs : starEach [e] X.env = [(false, eval e X.env)] := by rfl)
    (hbase : attributeBase (.Constant (.str sep) j p0) "join" X.env (eval (.Constant (.str sep) j p0) X.env) = eval (.Constant (.str sep) j p0) X.env := by rfl) (hline : (apos.endLine == pos.line) = true := by rfl) :
    EJ X W (.Call (.Attribute (.Constant (.str sep) j p0) "join" apos) [e] [] pos) (eU (gJoin sep) fe) := by
  obtain ⟨t, q, k⟩ := he
  refine ⟨_, pe_join (pe_str) q hs hbase hline, fun env σ K H Q s h => ?_⟩
  refine ⟨⟨sep, rfl⟩, ?_⟩
  refine k env σ K H _ s (MPost.mono (MPost.bind0 h) fun ra e1 h1 x H1 s1 o1 => ?_)
  cases px : peek ra e1 with
  | none => simp only [px] at h1; exact h1.elim
  | some d =>
    simp only [px] at h1
    have m := mem_peek (L := ra.ent x ++ K ++ e1.zip σ) (e := e1) (σ := σ) o1 (fun p hp => by simp [hp]) (fun p hp => by simp [hp]) px
    unfold gJoin at h1
    split at h1
    · rename_i o ds
      split at h1
      · rename_i ys hy
        split at h1
        · rename_i hz
          obtain ⟨a, vs, rfl, ha, pk⟩ := (s1.si.pkm m).lst
          have := strsD_vals hy pk
          subst this
          exact ⟨sep, a, ys, rfl, rfl, .inl (.inl (.inl ha)), hz, h1 _ H1 ⟨s1.len, (SI.drops (M := ra.ent (.ref a)) (by have := s1.si; rwa [List.append_assoc] at this)).atm nr_str⟩ trivial⟩
        · exact h1.elim
      · exact h1.elim
    · exact h1.elim
end VS
set_option Elab.async false
set_option linter.all false
set_option maxRecDepth 100000
set_option maxHeartbeats 2000000
namespace VS
open PySem PySem.Spec PyProof.Rows L2
variable {X : Cx} {W : WX} {P : List Nat}
/-! ### keywords: f(e, .., k = v, ..), the keyword-only parameters in the def's order, without defaults -/
structure KJ (X : Cx) (W : WX) (es : List Keyword) (f : Av) : Prop where
  ex : ∃ t, PK X es t ∧ AOk W t f
theorem kj_nil : KJ X W [] aNil := ⟨_, pk_nil, fun env σ K H Q s h => h [] H s trivial⟩
theorem kj_cons {a : Expr} {nm : Option Str} {kpos : Pos} {es : List Keyword} {f : Ev} {g : Av} (ha : EJ X W a f) (hb : KJ X W es g) : KJ X W (⟨nm, a, kpos⟩ :: es) (aCons f g) := by
  obtain ⟨ta, pa, ka⟩ := ha
  obtain ⟨tb, pb, kb⟩ := hb
  refine ⟨_, pk_cons pa pb, fun env σ K H Q s h => ?_⟩
  refine ka env σ K H _ s (MPost.mono (MPost.bind0 h) fun r e1 h1 v H1 s1 o1 => ?_)
  refine kb e1 σ _ H1 _ s1 (MPost.mono (MPost.bind (K0 := r.ent v) h1) fun rs e2 h2 vs H2 s2 o2 => ?_)
  refine h2 (v :: vs) H2 (s2.perm ?_) ⟨o1, o2⟩
  show (ents rs vs ++ (r.ent v ++ K)).Perm (r.ent v ++ ents rs vs ++ K)
  rw [← List.append_assoc]
  exact List.perm_append_comm.append_right _
/-- how a def with keyword-only parameters binds -/
def KwB (K : PySem.W.Frag) (fd : FuncData) (ps ks : List Str) (np : Nat) : Prop := ∀ (s : Shared) (us ws : List Value), K.In s.heap → us.length = np → ws.length = ks.length → BindsTo s fd ⟨us, ks.zip ws⟩ (ps.zip (us ++ ws))
def FOkK (Pg : Program) (w : World) (K : PySem.W.Frag) (mg : Str → Option Value) (base : Heap) (k : Nat) (p : Str × Option Str) (ps ks : List Str) (np n : Nat) (g : Fv) : Prop :=
  ∃ fd, FnOk Pg w K mg base (L2.CX Pg w) k (He.fAd K p) fd ps (spD n g) ∧ KwB K fd ps ks np ∧ PySem.W.keepIn K (.ref (He.fAd K p)) = true
theorem fn_jK {Pg : Program} {w : World} {K : PySem.W.Frag} {mg : Str → Option Value} {base : Heap} {x qual : Str} {params : Arguments} {body : List Stmt} {scope : Scope} {p : Str × Option Str} {N ps ks : List Str} {k n ns np : Nat} {b : Sv} (F : ∃ fd, FunD K x qual params body scope [] [] (He.fAd K p) fd) (S : FnScope N ps scope)
    (hbind : ∀ (kV doc pm : Value) (an : Option Addr) (cdv ct : Value) (us ws : List Value), us.length = np → ws.length = ks.length → bindArgs (PySem.W.fnOf x qual params body scope .none kV doc pm an cdv ct) ⟨us, ks.zip ws⟩ = pure (ps.zip (us ++ ws)))
    (hn : ps.length = n) (hN : N.length = ns) (hle : n ≤ ns) (hP : P.all (fun j => decide (j < n)) = true)
    (hb : ∀ (cdv : Value) (A : Around) (outer : List Env) (s : Shared) (H : Hp) (E : XK), Room k (A.deeper (envOfC qual scope s.heap.objs.size (He.fAd K p) cdv)) →
      Takes (cxOf (L2.CX Pg w) Pg w K mg base N qual scope (He.fAd K p) cdv A outer s H E) (fun cls d _ H => E cls d H) →
      PassesOwn (model Pg w) (A.deeper (envOfC qual scope s.heap.objs.size (He.fAd K p) cdv)) (envOfC qual scope s.heap.objs.size (He.fAd K p) cdv) (cxOf (L2.CX Pg w) Pg w K mg base N qual scope (He.fAd K p) cdv A outer s H E).xe →
      BJ (cxOf (L2.CX Pg w) Pg w K mg base N qual scope (He.fAd K p) cdv A outer s H E) (fun cls d _ H => E cls d H) P body b) :
    FOkK Pg w K mg base (k + 1) p ps ks np n (fnD P n ns b) := by
  obtain ⟨fd, F⟩ := F
  refine ⟨fd, fn_j F S hn hN hle hP hb, ?_, F.kp⟩
  obtain ⟨oc, od, dV, kV, doc, pm, an, cdv, ct, osl, rfl, lk, hcd, hdv, hkv⟩ := F.ex
  intro s us ws _ hu hw
  refine BindsTo.of_eq ?_
  have : dV = .none := by
    rcases hdv with h | h
    · exact h.2
    · exact absurd rfl h.1
  subst this
  exact hbind kV doc pm an cdv ct us ws hu hw
def aApp (f g : Av) : Av := fun e => (f e).bind fun rs e1 => (g e1).bind fun ks e2 => .ok (rs ++ ks) e2
theorem ents_app {rs : List R} {vs : List V} {ks : List R} {zs : List V} {σ : L2.St} (o : oks σ rs vs) : ents (rs ++ ks) (vs ++ zs) = ents rs vs ++ ents ks zs := by
  induction rs generalizing vs with
  | nil => cases vs with
    | nil => rfl
    | cons v vs => exact o.elim
  | cons r rs ih => cases vs with
    | nil => exact o.elim
    | cons v vs =>
      show r.ent v ++ ents (rs ++ ks) (vs ++ zs) = (r.ent v ++ ents rs vs) ++ ents ks zs
      rw [ih o.2, List.append_assoc]
theorem oks_app {rs : List R} {vs : List V} {ks : List R} {zs : List V} {σ : L2.St} (o : oks σ rs vs) (o' : oks σ ks zs) : oks σ (rs ++ ks) (vs ++ zs) := by
  induction rs generalizing vs with
  | nil => cases vs with
    | nil => exact o'
    | cons v vs => exact o.elim
  | cons r rs ih => cases vs with
    | nil => exact o.elim
    | cons v vs => exact ⟨o.1, ih o.2⟩
theorem oks_len {rs : List R} {vs : List V} {σ : L2.St} (o : oks σ rs vs) : rs.length = vs.length := by
  induction rs generalizing vs with
  | nil => cases vs with
    | nil => rfl
    | cons v vs => exact o.elim
  | cons r rs ih => cases vs with
    | nil => exact o.elim
    | cons v vs => simp [ih o.2]
def tCallKS (np nk : Nat) (sp : Sp) (E : L2.St → XK) (t tk : TA) : TE := fun σ H Q => t σ H fun vs H1 => tk σ H1 fun zs H2 => vs.length = np ∧ zs.length = nk ∧ sp (vs ++ zs) H2 Q (E σ)
/-- f(e, .., k = v, ..) -/
def eCallK (np nk n : Nat) (g : Fv) (fa fk : Av) : Ev := fun e => (fa e).bind fun rs e1 => (fk e1).bind fun ks e2 => if rs.length = np ∧ ks.length = nk then match takeS (rs ++ ks) e2 with
  | some (ds, e3) => if ds.length = n then callEnd g (rs ++ ks) ds e3 else .no
  | none => .no
  else .no
section
variable {k kk n np : Nat} {ps ks : List Str} {g : Fv} {x : Str} {p pos : Pos} {e : Expr} {es : List Expr} {kws : List Keyword} {fa fk : Av}
theorem ejFK (tk : Takes X W) (F : FOkK X.prog X.w X.K X.mg X.base k (x, none) ps ks np n g) (hr : Room kk X.A) (hm : X.mg x = some (.ref (He.ga X.K x))) (ha : AJ X W (e :: es) fa) (hkw : KJ X W kws fk) (hk : k ≤ kk := by decide) (hg : Gl X x := by rfl) (hdb : (x == ("__debug__" : Str)) = false := by decide)
    (hall : (backToKw pos (keywordEach kws X.env)).all (·.1.isSome) = true := by rfl) (hks : (backToKw pos (keywordEach kws X.env)).filterMap (·.1) = ks := by rfl)
    (he : starEach (e :: es) X.env = (false, eval e X.env) :: starEach es X.env := by rfl)
    (hpl : ((backTo pos (starEach (e :: es) X.env)).any (·.1) || (backToKw pos (keywordEach kws X.env)).any (·.1.isNone)) = false := by rfl) :
    EJ X W (.Call (.Name x p) (e :: es) kws pos) (eCallK np ks.length n g fa fk) := by
  obtain ⟨ta, pa, ka⟩ := ha
  obtain ⟨tkw, pk, kk2⟩ := hkw
  obtain ⟨fd, F, hb, hkp⟩ := F
  refine ⟨tCallKS np ks.length (spD n g) (WE W) ta tkw, ⟨fun pins s σ H Q I h => ?_⟩, fun env σ K H Q s h => ?_⟩
  · refine wpAny_Call_Name_kw (ld_glob I hg hm ?_ hdb)
    refine PySem.W.callWith_KW (h₀ := X.base) I.ok.mod.kin hkp hall (thn (pa.run pos pins s σ H _ I h) fun us s1 ⟨vs, H1, I1, r, q⟩ => ?_) hpl he
    refine thn (pk.run pos pins s1 σ H1 _ I1 q) fun ws s2 ⟨zs, H2, I2, rz, l1, l2, q2⟩ => ⟨I2.kIn, ?_⟩
    rw [hks]
    have r2 := r.append rz
    have hl : (us ++ ws).length = ps.length := by rw [← r2.length]; exact F.len _ _ _ _ q2
    refine wpAny_call (codeAny_mono (F.run X.A X.stack s2 H2 ⟨us, ks.zip ws⟩ (us ++ ws) (vs ++ zs) Q (WE W σ) (hr.mono hk) I2.env0 (hb s2 us ws I2.kIn (by rw [← r.length]; exact l1) (by rw [← rz.length]; exact l2)) r2 q2) fun r s' hq => ?_)
    cases r with
    | error e => exact passAt tk σ pins H2 s2 e s' I2 hq
    | ok fl =>
      cases fl with
      | ret u => exact I2.after hq
      | next => exact False.elim hq
      | brk => exact False.elim hq
      | cont => exact False.elim hq
  · refine ka env σ K H _ s (MPost.mono (MPost.bind0 h) fun rs e1 h1 vs H1 s1 o1 => ?_)
    refine kk2 e1 σ _ H1 _ s1 (MPost.mono (MPost.bind (K0 := ents rs vs) h1) fun ks2 e2 h2 zs H2 s2 o2 => ?_)
    split at h2
    · rename_i hl
      refine ⟨by rw [← oks_len o1]; exact hl.1, by rw [← oks_len o2]; exact hl.2, ?_⟩
      cases tke : takeS (rs ++ ks2) e2 with
      | none => simp only [tke] at h2; exact h2.elim
      | some z =>
        obtain ⟨ds, e3⟩ := z
        simp only [tke] at h2
        split at h2
        · rename_i hn
          refine call_end tke (oks_app o1 o2) (s2.perm ?_) hn h2
          rw [ents_app o1]
          show (ents ks2 zs ++ (ents rs vs ++ K)).Perm ((ents rs vs ++ ents ks2 zs) ++ K)
          rw [← List.append_assoc]
          exact List.perm_append_comm.append_right _
        · exact h2.elim
    · exact h2.elim
end
/-! ### x += e, x -= e of ints -/
def sAug (i : Nat) (f : Int → Int → Int) (fe : Ev) : Sv := fun e => match e[i]? with
  | some (.atm (.int _)) => (fe e).bind fun r e1 => match e1[i]?, peek r e1 with
    | some (.atm (.int a)), some (.atm (.int b)) => .ok .nx (e1.set i (.atm (.int (f a b))))
    | _, _ => .no
  | _ => .no
theorem sj_augI {i : Nat} {f : Int → Int → Int} {x : Str} {e : Expr} {fe : Ev} {op : Operator} {pos pos' : Pos} (ho : PIp X op (ipI f)) (he : EJ X W e fe) (nd : X.N.Nodup) (hi' : P.contains i = false := by rfl) (hN : X.N[i]? = some x := by rfl) (hx : Loc X.env.scope x := by first | exact Or.inl rfl | exact Or.inr rfl)
    (hf : X.fn x = true ∨ X.env.scope.names.lookup x = some .local := by first | exact .inl rfl | exact .inr rfl) : SJ X W P (.AugAssign (.Name x pos') op e pos) (sAug i f fe) := by
  obtain ⟨t, p, k⟩ := he
  refine ⟨_, ps_aug nd hN hx p ho hf, fun env σ K H Dn s m => ?_⟩
  unfold sAug at m
  cases e0 : env[i]? with
  | none => rw [e0] at m; exact m.elim
  | some d0 =>
    rw [e0] at m
    split at m
    · rename_i n0 hd0
      cases hd0
      obtain ⟨v0, hv0⟩ := slot_some s e0 rfl
      refine ⟨v0, hv0, k env σ K H _ s (MPost.mono (SPost.bind0 m) fun r e1 h1 v H1 s1 o1 => ?_)⟩
      split at h1
      · rename_i a b ea eb
        have ms := s1.si.pkm (List.mem_append_right _ (mem_zip ea hv0))
        have mb := mem_peek (L := r.ent v ++ K ++ e1.zip σ) (e := e1) (σ := σ) o1 (fun p hp => by simp [hp]) (fun p hp => by simp [hp]) eb
        refine ⟨a, b, ms.atm, (s1.si.pkm mb).atm, ?_⟩
        have hi : i < e1.length := (List.getElem?_eq_some_iff.mp ea).1
        refine h1 _ H1 (pin_set (by simpa using hi')) ?_
        exact Stt.put (y := .atm (.int (f a b))) (o := some (.int (f a b))) ⟨s1.len, SI.atm (s1.drops).si nr_int⟩ hi
      · exact h1.elim
    · exact m.elim
end VS
set_option Elab.async false
set_option linter.all false
set_option maxRecDepth 100000
set_option maxHeartbeats 2000000
namespace VS
open PySem PySem.Spec PyProof.Rows L2 L2H
/-! ### a block that only looks: all is frozen in it, and as before behind it -/
def sRo (vs : List Nat) (f : Sv) : Sv := fun e => if e.length ≤ 64 then match f (e.map fz) with
  | .ok .nx _ => .ok .nx (wipeE e vs)
  | .ok (.rt (.atm v)) _ => .ok (.rt (.atm v)) (wipeE e vs)
  | _ => .no else .no
theorem RepL.fz {G H G' : Hp} (l : Le G G') : ∀ (L : List Ent) (F : List Addr), RepL G H L F → (∀ a ∈ F, G' a = H a) → RepL G' H (L.map fun p => (fz p.1, p.2)) []
  | [], F, h, k => rfl
  | (d, o) :: L, F, h, k => by
    obtain ⟨F1, F2, e, r1, r2⟩ := h
    subst e
    exact ⟨[], [], rfl, Rep.fz l d o F1 r1 fun a ha => k a (List.mem_append_left _ ha), RepL.fz l L F2 r2 fun a ha => k a (List.mem_append_right _ ha)⟩
theorem zip_fz : ∀ (e : EnvD) (σ : L2.St), (e.map fz).zip σ = (e.zip σ).map fun p => (fz p.1, p.2)
  | [], σ => rfl
  | d :: e, [] => rfl
  | d :: e, o :: σ => by simp [zip_fz e σ]
open Classical in
theorem Stt.roIn {H : Hp} {K : List Ent} {e : EnvD} {σ : L2.St} (s : Stt H K e σ) : ∃ S : Hp, Stt H [(.gho S, none)] (e.map fz) σ ∧
    ∀ H' σ' e', Stt H' [(.gho S, none)] e' σ' → Stt H' K e σ := by
  obtain ⟨G, F, r, nd, gn, l⟩ := s.si
  let S : Hp := fun a => if a ∈ F then H a else G a
  have gs : Le G S := fun a o e => by
    have na : a ∉ F := fun z => by rw [gn a z] at e; cases e
    show (if a ∈ F then H a else G a) = some o
    rw [if_neg na]; exact e
  have sh : Le S H := fun a o e => by
    have e : (if a ∈ F then H a else G a) = some o := e
    by_cases c : a ∈ F
    · rw [if_pos c] at e; exact e
    · rw [if_neg c] at e; exact l a o e
  have sf : ∀ a ∈ F, S a = H a := fun a ha => by
    show (if a ∈ F then H a else G a) = H a
    rw [if_pos ha]
  refine ⟨S, ⟨by rw [List.length_map]; exact s.len, S, [], ?_, List.nodup_nil, (fun a ha => by cases ha), sh⟩, fun H' σ' e' s' => ?_⟩
  · have q := RepL.fz gs _ F r sf
    rw [List.map_append] at q
    obtain ⟨F1, F2, e0, _, q2⟩ := RepL.append.mp q
    have : F2 = [] := (List.append_eq_nil_iff.mp e0.symm).2
    subst this
    rw [zip_fz]
    exact ⟨[], [], rfl, by unfold Rep; exact ⟨fun _ _ z => z, rfl⟩, q2⟩
  · obtain ⟨G1, F1, ⟨Fa, Fb, ef, ra, rb⟩, _, _, l1⟩ := s'.si
    unfold Rep at ra
    have sh' : Le S H' := fun a o e => l1 a o (ra.1 a o e)
    refine ⟨s.len, G, F, RepL.mono (fun _ _ z => z) _ F r fun a ha => ?_, nd, gn, fun a o e => sh' a o (gs a o e)⟩
    cases eh : H a with
    | none => exact absurd eh (RepL.dom _ F r a ha)
    | some o => exact sh' a o (by rw [sf a ha]; exact eh)
theorem Stt.roOut {H : Hp} {K : List Ent} {e : EnvD} {σ σ' : L2.St} {vs : List Nat} (s : Stt H K e σ) (hl : e.length ≤ 64) (p : Pin (nP vs) σ σ') : Stt H K (wipeE e vs) σ' := by
  have s1 := s.forget vs
  have l1 : e.length = σ.length := s.len
  refine ⟨by rw [wipeE_length, p.1]; exact l1, jchange _ _ _ _ p.1.symm (fun i => ?_) s1.si⟩
  by_cases d : i < e.length
  · by_cases c : i ∈ vs
    · exact .inl ⟨.jnk, wipeE_in c d, rfl⟩
    · exact .inr (p.2 i (List.mem_filter.mpr ⟨List.mem_range.mpr (by omega), by simpa using c⟩)).symm
  · refine .inr ?_
    rw [List.getElem?_eq_none (by omega), List.getElem?_eq_none (by rw [p.1]; omega)]
theorem sok_ro {W : WX} {P : List Nat} {t : TS} {f : Sv} (vs : List Nat) (hp : ∀ j ∈ P, j ∈ nP vs) (h : SOk W (nP vs) t f) : SOk W P t (sRo vs f) := by
  intro env σ K H Dn s m
  unfold sRo at m
  split at m
  case isFalse => exact m.elim
  rename_i hl
  obtain ⟨S, s1, back⟩ := s.roIn
  refine h _ σ _ H Dn s1 ?_
  split at m
  · rename_i e1 he
    rw [he]
    exact fun σ' H' p s' => m σ' H' (p.less hp) ((back H' σ' _ s').roOut hl p)
  · rename_i v e1 he
    rw [he]
    refine fun u σ' H' p s' => m u σ' H' (p.less hp) ?_
    have s2 : Stt H' [(.gho S, none)] e1 σ' := ⟨s'.len, s'.si.drop⟩
    have s3 := (back H' σ' _ s2).roOut hl p
    obtain ⟨G, F, ⟨F1, F2, ef, r1, r2⟩, _⟩ := s'.si
    unfold Rep at r1
    rw [r1.1]
    exact ⟨s3.len, s3.si.atm r1.2.1⟩
  · exact m.elim
section
variable {X : Cx} {W : WX} {P : List Nat}
theorem sj_ro (vs : List Nat) {s : Stmt} {f : Sv} (h : SJ X W (nP vs) s f) (hp : ∀ j ∈ P, j ∈ nP vs := by decide) : SJ X W P s (sRo vs f) := by
  obtain ⟨t, p, q⟩ := h
  exact ⟨t, p, sok_ro vs hp q⟩
theorem bj_ro2 (vs : List Nat) {s1 s2 : Stmt} {rest : List Stmt} {f1 f2 g : Sv} (h1 : SJ X W (nP vs) s1 f1) (h2 : SJ X W (nP vs) s2 f2) (k : BJ X W P rest g) (hp : ∀ j ∈ P, j ∈ nP vs := by decide) :
    BJ X W P (s1 :: s2 :: rest) (sSeq (sRo vs (sSeq f1 f2)) g) := by
  obtain ⟨t1, p1, q1⟩ := h1
  obtain ⟨t2, p2, q2⟩ := h2
  obtain ⟨u, p', q'⟩ := k
  exact ⟨tSeq (tSeq t1 t2) u, (show PSs X _ (tSeq t1 (tSeq t2 u)) from pss_cons p1 (pss_cons p2 p')), sok_seq (sok_ro vs hp (sok_seq q1 q2)) q'⟩
theorem bj_ro3 (vs : List Nat) {s1 s2 s3 : Stmt} {rest : List Stmt} {f1 f2 f3 g : Sv} (h1 : SJ X W (nP vs) s1 f1) (h2 : SJ X W (nP vs) s2 f2) (h3 : SJ X W (nP vs) s3 f3) (k : BJ X W P rest g) (hp : ∀ j ∈ P, j ∈ nP vs := by decide) :
    BJ X W P (s1 :: s2 :: s3 :: rest) (sSeq (sRo vs (sSeq f1 (sSeq f2 f3))) g) := by
  obtain ⟨t1, p1, q1⟩ := h1
  obtain ⟨t2, p2, q2⟩ := h2
  obtain ⟨t3, p3, q3⟩ := h3
  obtain ⟨u, p', q'⟩ := k
  exact ⟨tSeq (tSeq t1 (tSeq t2 t3)) u, (show PSs X _ (tSeq t1 (tSeq t2 (tSeq t3 u))) from pss_cons p1 (pss_cons p2 (pss_cons p3 p'))), sok_seq (sok_ro vs hp (sok_seq q1 (sok_seq q2 q3))) q'⟩
theorem bj_ro4 (vs : List Nat) {s1 s2 s3 s4 : Stmt} {rest : List Stmt} {f1 f2 f3 f4 g : Sv} (h1 : SJ X W (nP vs) s1 f1) (h2 : SJ X W (nP vs) s2 f2) (h3 : SJ X W (nP vs) s3 f3) (h4 : SJ X W (nP vs) s4 f4) (k : BJ X W P rest g) (hp : ∀ j ∈ P, j ∈ nP vs := by decide) :
    BJ X W P (s1 :: s2 :: s3 :: s4 :: rest) (sSeq (sRo vs (sSeq f1 (sSeq f2 (sSeq f3 f4)))) g) := by
  obtain ⟨t1, p1, q1⟩ := h1
  obtain ⟨t2, p2, q2⟩ := h2
  obtain ⟨t3, p3, q3⟩ := h3
  obtain ⟨t4, p4, q4⟩ := h4
  obtain ⟨u, p', q'⟩ := k
  exact ⟨tSeq (tSeq t1 (tSeq t2 (tSeq t3 t4))) u, (show PSs X _ (tSeq t1 (tSeq t2 (tSeq t3 (tSeq t4 u)))) from pss_cons p1 (pss_cons p2 (pss_cons p3 (pss_cons p4 p')))), sok_seq (sok_ro vs hp (sok_seq q1 (sok_seq q2 (sok_seq q3 q4)))) q'⟩
/-- one of two ways, as the environment is -/
theorem ej_alt {e : Expr} {f g : Ev} (c : EnvD → Bool) (h : EJ X W e f) (k : EJ X W e g) : EJ X W e (fun env => if c env then f env else g env) := by
  obtain ⟨t, p, q⟩ := h
  obtain ⟨u, p', q'⟩ := k
  refine ⟨fun σ H Q => t σ H Q ∨ u σ H Q, ⟨fun pins s σ H Q I z => z.elim (p.run pins s σ H Q I) (p'.run pins s σ H Q I)⟩, fun env σ K H Q s m => ?_⟩
  have m : MPost W K σ (fun r e => ∀ v H', Stt H' (r.ent v ++ K) e σ → r.ok σ v → Q v H') (if c env then f env else g env) := m
  split at m
  · exact .inl (q env σ K H Q s m)
  · exact .inr (q' env σ K H Q s m)
end
end VS
set_option Elab.async false
set_option linter.all false
set_option maxRecDepth 100000
set_option maxHeartbeats 2000000
namespace VS
open PySem PySem.Spec PyProof.Rows L2 L2H
/-! ### refusals: the due tuple of an own error with one field -/
def refL (K : PySem.W.Frag) : List (Str × Str) → Exn → Option D
  | [], _ => none
  | (C, f) :: r, x => if x.c = He.ga K C then (match x.ns, x.ds with
      | [g], [d] => if g = f ∧ fzn d = true then some (.tup [.atm (.str "refused"), .atm (.str C), d]) else none
      | _, _ => none) else refL K r x
theorem refL_some {K : PySem.W.Frag} {x : Exn} {d : D} : ∀ {l : List (Str × Str)}, refL K l x = some d → ∃ C f d0, (C, f) ∈ l ∧ x = ⟨He.ga K C, [f], [d0]⟩ ∧ fzn d0 = true ∧ d = .tup [.atm (.str "refused"), .atm (.str C), d0]
  | [], h => by cases h
  | (C, f) :: r, h => by
    unfold refL at h
    split at h
    · rename_i hc
      split at h
      · rename_i g d0 e1 e2
        split at h
        · rename_i hg
          cases h
          obtain ⟨c, ns, ds⟩ := x
          simp only at e1 e2 hc
          obtain ⟨rfl, hf⟩ := hg
          subst e1 e2 hc
          exact ⟨C, g, d0, List.mem_cons_self, rfl, hf, rfl⟩
        · cases h
      · cases h
    · obtain ⟨C', f', d0, m, q⟩ := refL_some h
      exact ⟨C', f', d0, List.mem_cons_of_mem _ m, q⟩
def gsL (K : PySem.W.Frag) (l : List (Str × Str)) (i : Nat) : Gx := fun x e => match refL K l x with
  | some d => some (.rt d, e.set i .jnk)
  | none => none
theorem gIsE_k {K : PySem.W.Frag} {a da c : Addr} {cv : Value} {ns : List Str} {ds : List D} {b : Bool} (h : PySem.W.kitOne K (.ref c) cv = some b) : gIsE K a da c cv (.exo a da c ns ds) = some (.atm (.bl b)) := by
  unfold gIsE
  simp only [and_self, if_true, h]
theorem gXf_k {a da c : Addr} {f : Str} {d : D} (h : fzn d = true) : gXf a da c c f (.exo a da c [f] [d]) = some d := by
  unfold gXf
  simp only [and_self, if_true]
  rw [show fldD f [f] [d] = some d by unfold fldD; simp]
  simp only [h, if_true]
theorem ga_ne {K : PySem.W.Frag} {x y : Addr} {b c : Bool} (h : PySem.W.kitOne K (.ref x) (.ref y) = some b) (k : PySem.W.kitOne K (.ref x) (.ref x) = some c) (n : b ≠ c) : x ≠ y := by
  intro e
  subst e
  rw [h] at k
  exact n (Option.some.inj k)
theorem gxL {K : PySem.W.Frag} {kn : Addr → Prop} {i : Nat} {m : Addr → Addr → Addr → Fv} {l : List (Str × Str)} (h : ∀ C f d a da, (C, f) ∈ l → fzn d = true → kn (He.ga K C) ∧ m a da (He.ga K C) [.exo a da (He.ga K C) [f] [d]] = .ok (.tup [.atm (.str "refused"), .atm (.str C), d]) [.jnk]) :
    GxOk kn i (fun a da c => sRt (eCall 1 (m a da c) (aCons (eCp i) aNil))) (gsL K l i) := by
  intro x e o e' he hg
  unfold gsL at hg
  split at hg
  · rename_i d hd
    cases hg
    obtain ⟨C, f, d0, hm, rfl, hf, rfl⟩ := refL_some hd
    have hgt : ∀ d : D, (e.set i d)[i]? = some d := fun d => by rw [List.getElem?_set_self he]
    refine ⟨(h C f d0 0 0 hm hf).1, fun a da => ⟨e.set i (.exo a da (He.ga K C) [f] [d0]), ?_, by rw [List.set_set]⟩⟩
    have r := (h C f d0 a da hm hf).2
    simp [hgt, r, isJ, fzn, fzns, hf]
  · cases hg
end VS
set_option Elab.async false
set_option linter.all false
set_option maxRecDepth 100000
set_option maxHeartbeats 2000000
namespace VS
open PySem PySem.Spec PyProof.Rows L2 L2H
/-! ### the D-level runs of V29 to V32, step by step -/
def kCallK2 (np nk n : Nat) (h : Fv) (rs : List R) : M (List R) → M R
  | .ok ks e => if rs.length = np ∧ ks.length = nk then kCall2 n h (rs ++ ks) (takeS (rs ++ ks) e) else .no
  | .er x e => .er x e
  | .no => .no
def kCallK (np nk n : Nat) (h : Fv) (fk : Av) : M (List R) → M R
  | .ok rs e => kCallK2 np nk n h rs (fk e)
  | .er x e => .er x e
  | .no => .no
def kAug3 (i : Nat) (f : Int → Int → Int) : Option D → Option D → EnvD → M Out
  | some (.atm (.int a)), some (.atm (.int b)), e => .ok .nx (e.set i (.atm (.int (f a b))))
  | _, _, _ => .no
def kAug2 (i : Nat) (f : Int → Int → Int) : M R → M Out
  | .ok r e => kAug3 i f e[i]? (peek r e) e
  | .er x e => .er x e
  | .no => .no
def kAug (i : Nat) (f : Int → Int → Int) (fe : Ev) : Option D → EnvD → M Out
  | some (.atm (.int _)), e => kAug2 i f (fe e)
  | _, _ => .no
def kJs : M Str → M R
  | .ok out e => .ok (.val (.atm (.str out))) e
  | .er x e => .er x e
  | .no => .no
def kJ3 (rest : Str → Jv) (acc : Str) : Option Str → EnvD → M Str
  | some y, e => if (acc ++ y).length ≤ 16777216 then rest (acc ++ y) e else .no
  | none, _ => .no
def kJ2 (rest : Str → Jv) (acc : Str) : Option D → EnvD → M Str
  | some d, e => kJ3 rest acc (fmtD d) e
  | none, _ => .no
def kJ (rest : Str → Jv) (acc : Str) : M R → M Str
  | .ok r e => kJ2 rest acc (peek r e) e
  | .er x e => .er x e
  | .no => .no
def kRo (vs : List Nat) (e : EnvD) : M Out → M Out
  | .ok .nx _ => .ok .nx (wipeE e vs)
  | .ok (.rt (.atm v)) _ => .ok (.rt (.atm v)) (wipeE e vs)
  | _ => .no
section
variable {np nk n i : Nat} {h : Fv} {fa fk : Av} {fe : Ev} {f : Int → Int → Int} {e e' : EnvD} {rs ks : List R} {r : R} {rest : Str → Jv} {acc y out : Str} {d : D} {a b : Int} {fv : Sv} {vs : List Nat} {x : Exn} {v : V} {fj : Str → Jv}
@[simp] theorem eCallK_e : eCallK np nk n h fa fk e = kCallK np nk n h fk (fa e) := by
  unfold eCallK kCallK
  cases fa e with
  | no => rfl
  | er x e => rfl
  | ok rs e1 =>
    simp only [bind_ok]
    unfold kCallK2
    cases fk e1 with
    | no => rfl
    | er x e => rfl
    | ok ks e2 =>
      simp only [bind_ok]
      split
      · unfold kCall2
        cases takeS (rs ++ ks) e2 with
        | none => rfl
        | some p =>
          obtain ⟨ds, e3⟩ := p
          simp only
          split
          · unfold callEnd kCall3
            cases h ds <;> rfl
          · rfl
      · rfl
@[simp] theorem kCallK_ok : kCallK np nk n h fk (.ok rs e) = kCallK2 np nk n h rs (fk e) := (rfl)
@[simp] theorem kCallK2_ok : kCallK2 np nk n h rs (.ok ks e) = if rs.length = np ∧ ks.length = nk then kCall2 n h (rs ++ ks) (takeS (rs ++ ks) e) else .no := (rfl)
@[simp] theorem sAug_e : sAug i f fe e = kAug i f fe e[i]? e := by
  unfold sAug kAug
  cases e[i]? with
  | none => rfl
  | some d =>
    cases d with
    | atm v => cases v with
      | int a =>
        simp only
        unfold kAug2
        cases fe e with
        | no => rfl
        | er x e => rfl
        | ok r e1 =>
          simp only [bind_ok]
          generalize e1[i]? = p
          generalize peek r e1 = q
          cases p with
          | none => rfl
          | some d => cases d with
            | atm v => cases v with
              | int a => cases q with
                | none => rfl
                | some d2 => cases d2 with
                  | atm v2 => cases v2 <;> rfl
                  | _ => rfl
              | _ => rfl
            | _ => rfl
      | _ => rfl
    | _ => rfl
@[simp] theorem kAug_ok : kAug i f fe (some (.atm (.int a))) e = kAug2 i f (fe e) := (rfl)
@[simp] theorem kAug2_ok : kAug2 i f (.ok r e) = kAug3 i f e[i]? (peek r e) e := (rfl)
@[simp] theorem kAug3_ok : kAug3 i f (some (.atm (.int a))) (some (.atm (.int b))) e = .ok .nx (e.set i (.atm (.int (f a b)))) := (rfl)
@[simp] theorem eJs_e : eJs fj e = kJs (fj Str.empty e) := by
  unfold eJs kJs
  cases fj Str.empty e <;> rfl
@[simp] theorem kJs_ok : kJs (.ok out e) = .ok (.val (.atm (.str out))) e := (rfl)
@[simp] theorem jNil_e : jNil acc e = .ok acc e := (rfl)
@[simp] theorem jCons_e : jCons fe rest acc e = kJ rest acc (fe e) := by
  unfold jCons kJ
  cases fe e with
  | no => rfl
  | er x e => rfl
  | ok r e1 =>
    simp only [bind_ok]
    unfold kJ2
    cases peek r e1 with
    | none => rfl
    | some d =>
      simp only
      unfold kJ3
      cases fmtD d <;> rfl
@[simp] theorem kJ_ok : kJ rest acc (.ok r e) = kJ2 rest acc (peek r e) e := (rfl)
@[simp] theorem kJ2_ok : kJ2 rest acc (some d) e = kJ3 rest acc (fmtD d) e := (rfl)
@[simp] theorem kJ3_ok : kJ3 rest acc (some y) e = if (acc ++ y).length ≤ 16777216 then rest (acc ++ y) e else .no := (rfl)
@[simp] theorem sRo_e : sRo vs fv e = if e.length ≤ 64 then kRo vs e (fv (e.map fz)) else .no := by
  unfold sRo kRo
  rfl
@[simp] theorem kRo_nx : kRo vs e (.ok .nx e') = .ok .nx (wipeE e vs) := (rfl)
@[simp] theorem kRo_rt : kRo vs e (.ok (.rt (.atm v)) e') = .ok (.rt (.atm v)) (wipeE e vs) := (rfl)
end
/-! texts -/
@[simp] theorem fmt_str {x : Str} (h : x.length ≤ 16777216) : fmtD (.atm (.str x)) = some x := by
  show (if _ then _ else _) = _
  rw [if_pos h]
theorem log_small {i : Int} (h : -100000 ≤ i ∧ i ≤ 100000) : i.natAbs.log2 < 1920 := by
  have h1 : i.natAbs < 2 ^ 17 := by omega
  by_cases h0 : i.natAbs = 0
  · rw [h0]; decide
  · have := (Nat.log2_lt h0).mpr h1
    omega
theorem fmt_int {i : Int} (h : -100000 ≤ i ∧ i ≤ 100000) : fmtD (.atm (.int i)) = some (strI i) := by
  show (if _ then _ else _) = _
  rw [if_pos (log_small h)]
theorem gStr_int {os : List (Addr × Fv)} {i : Int} (h : -100000 ≤ i ∧ i ≤ 100000) : gStrA os [.atm (.int i)] = some (.atm (.str (strI i))) := by
  unfold gStrA
  simp only
  rw [if_pos (log_small h)]
theorem gStr_own {C : Addr} {g : Fv} {os : List (Addr × Fv)} {ns : List Str} {ds : List D} {x : Str} {fin : EnvD} (hf : fzns ds = true) (h : g [.ins false C ns ds] = .ok (.atm (.str x)) fin) : gStrA ((C, g) :: os) [.ins false C ns ds] = some (.atm (.str x)) := by
  unfold gStrA ownL ownD
  simp [fzns, fzn, hf, h]
@[simp] theorem gIsO_ok {C : Addr} {o : Bool} {ns : List Str} {ds : List D} : gIsO C (.ins o C ns ds) = some (.atm (.bl true)) := by
  unfold gIsO
  simp
@[simp] theorem gAddS_str {x y : Str} : gAddS (.atm (.str x)) (.atm (.str y)) = if x.length + y.length ≤ 16777216 then some (.atm (.str (x ++ y))) else none := (rfl)
theorem sok_app (x y : Str) : PyData.strOk (x ++ y) = (PyData.strOk x && PyData.strOk y) := by
  show (x.cps ++ y.cps).all _ = _
  rw [Array.all_append]
  rfl
theorem sok_of (s : String) : PyData.strOk (Str.ofString s) = true := by
  rw [Str.ofString_eq_toList]
  show ((s.toList.map Char.toNat).toArray).all _ = true
  rw [List.all_toArray, List.all_map, List.all_eq_true]
  intro c _
  have := c.valid
  show decide (c.toNat < 0x110000) = true
  rw [decide_eq_true_eq]
  have h : UInt32.isValidChar c.val := c.valid
  rcases h with h | h
  · have : c.toNat < 0xd800 := h
    omega
  · exact h.2
theorem shaped_str {x : Str} (h : PyData.strOk x = true) : SeqAt.shaped (.str x) = true := by
  unfold SeqAt.shaped
  simp [PyData.canLay0, h, PyData.depth]
theorem len_app (x y : Str) : (x ++ y).length = x.length + y.length := Str.length_append x y
/-! a tuple of values is frozen when they are -/
@[simp] theorem gJoin_str {sep : Str} {o : Bool} {ds : List D} {ys : List Str} (h : strsD ds = some ys) (hl : (ys.map (·.length)).sum + ys.length * sep.length ≤ 16777216) : gJoin sep (.lst o ds) = some (.atm (.str (Txt.join sep ys))) := by
  unfold gJoin
  simp only [h]
  rw [if_pos hl]
theorem strsD_map (ys : List Str) : strsD (ys.map fun y => .atm (.str y)) = some ys := by
  induction ys with
  | nil => rfl
  | cons y ys ih =>
    rw [List.map_cons]
    unfold strsD
    rw [ih]
theorem join_empty (ys : List Str) : Txt.join Str.empty ys = ys.foldr (· ++ ·) Str.empty := by
  show PySem.Builtin.Str.glued Str.empty ys = _
  rw [StrLaws.glued_eq_join]
  induction ys with
  | nil => rfl
  | cons y ys ih =>
    cases ys with
    | nil =>
      show y = y ++ Str.empty
      cases y with
      | mk c => show Str.mk c = Str.mk (c ++ #[]); simp
    | cons z zs =>
      show y ++ Str.empty ++ Str.join Str.empty (z :: zs) = y ++ _
      rw [ih, show y ++ Str.empty = y from by
        cases y with
        | mk c => show Str.mk (c ++ #[]) = Str.mk c; simp]
end VS
set_option Elab.async false
set_option linter.all false
set_option maxRecDepth 100000
set_option maxHeartbeats 2000000
namespace VS
open PySem PySem.Spec PyProof.Rows L2 L2H
variable {X : Cx} {W : WX} {P : List Nat}
/-! ### l.index(x) -/
def gIdx : D → D → Option D := fun l x => match l with
  | .lst o ds => match toP (.lst o ds), toP x with
    | some (.list ps), some p => if SeqAt.shaped (.list ps) && SeqAt.shaped p then match ps.findIdx? (fun z => PyData.eqv z p) with
        | some j => some (.atm (.int (j : Nat)))
        | none => none
      else none
    | _, _ => none
  | _ => none
def isL : D → Bool
  | .lst _ _ => true
  | _ => false
def eIdx (fo fe : Ev) : Ev := fun e => (fo e).bind fun ra e1 => match peek ra e1 with
  | some d => if isL d then (fe e1).bind fun rb e2 => match peek ra e2, peek rb e2 with
      | some l, some x => (lift (gIdx l x) e2).bind fun z e3 => .ok (.val z) e3
      | _, _ => .no
    else .no
  | none => .no
theorem ej_index (hu : X.A.units + 65 < cLine) {o e : Expr} {fo fe : Ev} {apos cpos : Pos} (ho : EJ X W o fo) (he : EJ X W e fe)
    (hbase : attributeBase o "index" X.env (eval o X.env) = eval o X.env := by rfl)
    (hfew : ((backTo cpos (starEach [e] X.env)).all (fun x => !x.1) && (backToKw cpos (keywordEach [] X.env)).all (fun x => x.1.isSome)
      && decide ([e].length + ([] : List Keyword).length + (if ([] : List Keyword).isEmpty then 0 else 1) < 30)) = true := by rfl)
    (hline : (apos.endLine == cpos.line) = true := by rfl) (hs : starEach [e] X.env = (false, eval e X.env) :: starEach [] X.env := by rfl) (hplain : (backTo cpos (starEach [] X.env)).any (·.1) = false := by rfl) :
    EJ X W (.Call (.Attribute o "index" apos) [e] [] cpos) (eIdx fo fe) := by
  obtain ⟨t, p, kk⟩ := ho
  obtain ⟨t2, p2, kk2⟩ := he
  refine ⟨_, pe_bm PySem.F.plainAttrs_list PySem.F.slot_list_index PySem.F.type_list_index (mt_indexD hu) p (pa_cons p2 pa_nil hs) hbase hfew hline hs hplain, fun env σ K H Q s h => ?_⟩
  refine kk env σ K H _ s (MPost.mono (MPost.bind0 h) fun ra e1 h1 x H1 s1 o1 => ?_)
  cases px : peek ra e1 with
  | none => simp only [px] at h1; exact h1.elim
  | some d =>
    simp only [px] at h1
    cases hd : isL d with
    | false => rw [hd] at h1; exact h1.elim
    | true =>
      rw [hd] at h1
      simp only [if_true] at h1
      have m := mem_peek (L := ra.ent x ++ K ++ e1.zip σ) (e := e1) (σ := σ) o1 (fun p hp => by simp [hp]) (fun p hp => by simp [hp]) px
      cases d with
      | lst own ds =>
        obtain ⟨a, vs, ev, ha, pk⟩ := (s1.si.pkm m).lst
        subst ev
        refine ⟨.inl ⟨rfl, _, .inl (.inl ha)⟩, kk2 e1 σ _ H1 _ s1 (MPost.mono (MPost.bind (K0 := ra.ent (.ref a)) h1) fun rb e2 h2 y H2 s2 o2 => ?_)⟩
        cases p1 : peek ra e2 with
        | none => simp only [p1] at h2; exact h2.elim
        | some l => cases p2 : peek rb e2 with
          | none => simp only [p1, p2] at h2; exact h2.elim
          | some dx =>
            simp only [p1, p2] at h2
            have n1 := mem_peek (L := rb.ent y ++ (ra.ent (.ref a) ++ K) ++ e2.zip σ) (e := e2) (σ := σ) o1 (fun p hp => by simp [hp]) (fun p hp => by simp [hp]) p1
            have n2 := mem_peek (L := rb.ent y ++ (ra.ent (.ref a) ++ K) ++ e2.zip σ) (e := e2) (σ := σ) o2 (fun p hp => by simp [hp]) (fun p hp => by simp [hp]) p2
            cases gz : gIdx l dx with
            | none => rw [gz] at h2; exact h2.elim
            | some z =>
              rw [gz] at h2
              unfold gIdx at gz
              split at gz
              · rename_i o' ds'
                split at gz
                · rename_i ps p e1' e2'
                  split at gz
                  · rename_i c
                    simp only [Bool.and_eq_true] at c
                    split at gz
                    · rename_i j hj
                      cases gz
                      obtain ⟨hj1, hj2, hj3⟩ := List.findIdx?_eq_some_iff_getElem.mp hj
                      refine ⟨a, y, p, ps, j, ps[j], rfl, rfl, (s2.si.pkm n1).dp e1', (s2.si.pkm n2).dp e2', c.1, c.2, List.getElem?_eq_getElem hj1, hj2, fun m z' hm hz => ?_, h2 _ H2 ⟨s2.len, (SI.drops (M := rb.ent y ++ ra.ent (.ref a)) (by have := s2.si; simpa using this)).atm nr_int⟩ trivial⟩
                      obtain ⟨hm1, rfl⟩ := List.getElem?_eq_some_iff.mp hz
                      simpa using hj3 m hm
                    · cases gz
                  · cases gz
                · cases gz
              · cases gz
      | _ => cases hd
/-! ### bool(x) of ints and bools -/
def gBool : List D → Option D
  | [.atm (.int i)] => some (.atm (.bl (i != 0)))
  | [.atm (.bl b)] => some (.atm (.bl b))
  | _ => none
theorem b_bool : CallR X (.type "bool") (fun xs H Q => (∃ i, xs = [.int i] ∧ Q (.bl (i != 0)) H) ∨ ∃ k, xs = [.bl k] ∧ Q (.bl k) H) ∧ OpN (fun xs H Q => (∃ i, xs = [.int i] ∧ Q (.bl (i != 0)) H) ∨ ∃ k, xs = [.bl k] ∧ Q (.bl k) H) gBool := by
  refine ⟨call_bool1, fun H L xs ds z Q s m hz q => ?_⟩
  unfold gBool at hz
  split at hz
  · cases hz
    obtain ⟨v, ex, mv⟩ := mems1 m
    have e := (s.pkm mv).atm
    subst ex; subst e
    exact .inl ⟨_, rfl, q _ H (s.atm nr_bl)⟩
  · cases hz
    obtain ⟨v, ex, mv⟩ := mems1 m
    have e := (s.pkm mv).atm
    subst ex; subst e
    exact .inr ⟨_, rfl, q _ H (s.atm nr_bl)⟩
  · cases hz
end VS
set_option Elab.async false
set_option linter.all false
set_option maxRecDepth 100000
set_option maxHeartbeats 2000000
namespace VS
open PySem PySem.Spec PyProof.Rows L2 L2H
section
variable {X : Cx} {W : WX} {P : List Nat}
/-! ### a test that only looks -/
def tRo (f : Tv) : Tv := fun e => match f (e.map fz) with
  | .ok b _ => .ok b e
  | _ => .no
theorem tok_ro {t : TT} {f : Tv} (h : TOk W t f) : TOk W t (tRo f) := by
  intro env σ K H Q s m
  unfold tRo at m
  obtain ⟨S, s1, back⟩ := s.roIn
  refine h _ σ _ H Q s1 ?_
  split at m
  · rename_i b e1 he
    rw [he]
    exact fun H' s' => m H' (back H' σ _ s')
  · exact m.elim
theorem tj_ro {e : Expr} {f : Tv} (h : TJ X W e f) : TJ X W e (tRo f) := by
  obtain ⟨t, p, k⟩ := h
  exact ⟨t, p, tok_ro k⟩

/-! ### a loop that gives its list's items away -/
theorem SPost.more1 {x : Ent} {K : List Ent} {σ : L2.St} {Dn : Ends} {m : M Out} (h : SPost W P K σ Dn m) : SPost W P (x :: K) σ Dn m := by
  cases m with
  | no => exact h
  | er y e => exact fun σ' H' da p s => h σ' H' da p (Stt.mid (B := [x]) s)
  | ok o e => exact SPost.dropK (K0 := [x]) h
theorem Stt.jnk1 {H : Hp} {ds ds' : List D} {o : Option V} {K : List Ent} {e : EnvD} {σ : L2.St} (h : Stt H ((.lst true ds, o) :: K) e σ) (hl : ds'.length = ds.length) : Stt H ((.lst true (ds'.map fun _ => D.jnk), o) :: K) e σ :=
  ⟨h.len, SI.jnkL h.si hl⟩
theorem Stt.jnk2 {H : Hp} {x : Ent} {ds ds' : List D} {o : Option V} {K : List Ent} {e : EnvD} {σ : L2.St} (h : Stt H (x :: (.lst true ds, o) :: K) e σ) (hl : ds'.length = ds.length) : Stt H (x :: (.lst true (ds'.map fun _ => D.jnk), o) :: K) e σ :=
  ⟨h.len, (SI.jnkL (h.si.perm (List.Perm.swap _ _ _)) hl).perm (List.Perm.swap _ _ _)⟩
def RFor (g : TG) (tb : TS) (D : Ends) (σ : L2.St) (J : It) (H1 : Hp) : Prop := ∃ W : Nat → Nat → L2.St → Hp → Prop, (∃ m, W 0 m σ H1) ∧ ∀ i m σ H, W i m σ H →
  (J.stop i H ∧ D.nx σ H) ∨ (J.go i H ∧ ∃ N : L2.St → Hp → Prop, (∀ σ' H', N σ' H' → ∃ m', m' < m ∧ W (i + 1) m' σ' H') ∧ ∀ x H', J.yld i H x H' → g x σ H' fun σ2 H2 => tb { D with nx := N, ct := N, bk := D.nx } σ2 H2)
theorem for_core {tg : TG} {tb : TS} {g : Gv} {b : Sv} {Kf : PySem.W.Frag} {env : EnvD} {σ : L2.St} {K : List Ent} {H : Hp} {Dn : Ends} {a : Addr} {ds : List D} (hg : GOk P tg g) (hb : SOk W P tb b)
    (s1 : Stt H ((.lst true ds, some (.ref a)) :: K) env σ) (m : SPost W P ((.lst true (ds.map fun _ => D.jnk), some (.ref a)) :: K) σ Dn (forD g b ds env)) :
    (∃ xs, SqL Kf H a xs) ∧ RFor tg tb Dn σ (Itl Kf a) H := by
  obtain ⟨a0, vs0, ev, ha0, _⟩ := s1.si.pk.lst
  cases ev
  refine ⟨⟨vs0, .inl (.inl ha0)⟩, fun k m σ' H' => m = ds.length - k ∧ k ≤ ds.length ∧ Pin P σ σ' ∧ ∃ e, Stt H' ((.lst true (List.replicate k .jnk ++ ds.drop k), some (.ref a)) :: K) e σ' ∧
    SPost W P ((.lst true (ds.map fun _ => D.jnk), some (.ref a)) :: K) σ Dn (forD g b (ds.drop k) e), ⟨ds.length, by simp, Nat.zero_le _, Pin.refl, _, by simpa using s1, by simpa using m⟩, ?_⟩
  rintro k m σ2 H2 ⟨rfl, hk, pn, e, s2, q⟩
  obtain ⟨a', vs, ev, ha, pk⟩ := s2.si.pk.lst
  cases ev
  have hvl : vs.length = ds.length := by have := pk.1; simp at this; omega
  by_cases c : k < ds.length
  · refine .inr ?_
    have hget : (List.replicate k D.jnk ++ ds.drop k)[k]? = some ds[k] := by
      rw [List.getElem?_append_right (by simp)]
      simp [c]
    obtain ⟨a2, vs2, v, ev2, sq, hl2, hv2, s3⟩ := SI.split s2.si (d0 := .lst true (List.replicate k D.jnk ++ ds.drop k)) rfl hget
    cases ev2
    have sq' : H2 a = some (.lst vs2) := sq
    refine ⟨⟨vs2, v, .inl (.inl sq'), hv2⟩, fun σ' H' => k + 1 ≤ ds.length ∧ Pin P σ σ' ∧ ∃ e, Stt H' ((.lst true (List.replicate (k + 1) .jnk ++ ds.drop (k + 1)), some (.ref a)) :: K) e σ' ∧
      SPost W P ((.lst true (ds.map fun _ => D.jnk), some (.ref a)) :: K) σ Dn (forD g b (ds.drop (k + 1)) e), fun σ' H' ⟨a1, a2, a3⟩ => ⟨ds.length - (k + 1), by omega, rfl, a1, a2, a3⟩, fun x H3 ⟨eH, hx⟩ => ?_⟩
    subst eH
    have := hx vs2 (.inl (.inl sq'))
    rw [hv2] at this
    cases this
    have hset : (List.replicate k D.jnk ++ ds.drop k).set k .jnk = List.replicate (k + 1) .jnk ++ ds.drop (k + 1) := by
      have hz : k - (List.replicate k D.jnk).length = 0 := by simp
      rw [List.set_append_right _ _ (by simp), List.drop_eq_getElem_cons c, hz, List.set_cons_zero, List.replicate_succ', List.append_assoc]
      rfl
    have hlen : k < (List.replicate k D.jnk ++ ds.drop k).length := by simp; omega
    have s4 : SI H3 ((.jnk, some v) :: (box (.lst true (List.replicate k D.jnk ++ ds.drop k)) ((List.replicate k D.jnk ++ ds.drop k).set k (.hol v)), some (.ref a)) :: (ds[k], some v) :: (K ++ e.zip σ2)) := SI.jnk (s3.perm (List.Perm.swap _ _ _))
    have s5 := SI.join (kids_box (d0 := .lst true (List.replicate k D.jnk ++ ds.drop k)) rfl) s4 (List.getElem?_set_self hlen)
    rw [box_box, List.set_set, hset] at s5
    have s6 : Stt H3 ((ds[k], some v) :: (.lst true (List.replicate (k + 1) .jnk ++ ds.drop (k + 1)), some (.ref a)) :: K) e σ2 := ⟨s2.len, s5.perm (List.Perm.swap _ _ _)⟩
    rw [List.drop_eq_getElem_cons c] at q
    unfold forD at q
    cases ge : g ds[k] e with
    | none => rw [ge] at q; exact q.elim
    | some e3 =>
      rw [ge] at q
      simp only at q
      refine hg e σ2 _ H3 v ds[k] e3 _ s6 ge fun σ4 H4 pn4 s7 => ?_
      refine hb e3 σ4 _ H4 _ s7 ?_
      have pn' := pn.trans pn4
      have fill : ds.length = (List.replicate (k + 1) D.jnk ++ ds.drop (k + 1)).length := by simp; omega
      cases be : b e3 with
      | no => rw [be] at q; exact q.elim
      | er x e5 =>
        rw [be] at q
        exact fun σ' H' da p s' => q σ' H' da (pn'.trans p) (s'.jnk2 fill)
      | ok o e5 =>
        rw [be] at q
        cases o with
        | nx => exact fun σ' H' p s' => ⟨c, pn'.trans p, e5, s', q⟩
        | ct => exact fun σ' H' p s' => ⟨c, pn'.trans p, e5, s', q⟩
        | bk => exact fun σ' H' p s' => q σ' H' (pn'.trans p) (s'.jnk1 fill)
        | rt d => exact fun w σ' H' p s' => q w σ' H' (pn'.trans p) (s'.jnk2 fill)
  · refine .inl ⟨⟨vs, .inl (.inl ha), by omega⟩, ?_⟩
    have hk' : k = ds.length := by omega
    subst hk'
    rw [List.drop_eq_nil_of_le (Nat.le_refl _)] at q s2
    exact q σ2 H2 pn (s2.jnk1 (by simp))
/-- for y in e: e's fresh list, its items given away -/
def sForV (f : Ev) (g : Gv) (b : Sv) : Sv := fun e => (f e).bind fun r e1 => match r with
  | .val (.lst true ds) => forD g b ds e1
  | _ => .no
theorem sok_forV {t : TE} {f : Ev} {tg : TG} {tb : TS} {g : Gv} {b : Sv} {Kf : PySem.W.Frag} (he : EOk W t f) (hg : GOk P tg g) (hb : SOk W P tb b) : SOk W P (tFor (iSeq Kf t) tg tb) (sForV f g b) := by
  intro env σ K H Dn s m
  refine he env σ K H _ s (MPost.mono (SPost.bind0 m) fun r e1 h1 v H1 s1 o1 => ?_)
  split at h1
  case h_2 => exact h1.elim
  rename_i ds
  obtain ⟨a, vs, ev, ha, _⟩ := s1.si.pk.lst
  subst ev
  exact ⟨a, rfl, .inl (for_core hg hb s1 h1.more1)⟩
theorem sj_forV {it tg : Expr} {body : List Stmt} {f : Ev} {g : Gv} {b : Sv} {pos : Pos} (hp : PassesOwn (model X.prog X.w) X.A X.env X.xe) (he : EJ X W it f) (hg : GJ X P tg g) (hb : BJ X W P body b) (hc : X.calm = true := by rfl)
    (hs : ∀ y, foldedSetIterable it X.env y = pure y := by intro _; rfl) : SJ X W P (.For tg it body [] pos) (sForV f g b) := by
  obtain ⟨t, p1, k1⟩ := he
  obtain ⟨t2, p2, k2⟩ := hg
  obtain ⟨tb, p3, k3⟩ := hb
  exact ⟨_, ps_for hp hc (pi_seq p1) p2 p3 hs, sok_forV k1 k2 k3⟩
/-- for y in x[k]: a part of our own thing, its items given away -/
def sForMvP (i : Nat) (fk : Ev) (g : Gv) (b : Sv) : Sv := fun e => match e[i]? with
  | some d00 => match kids d00 with
    | some _ => (fk e).bind fun rk e1 => match e1[i]?, peek rk e1 with
      | some d0, some (.atm (.int k)) => match kids d0 with
        | some ds => match ixN ds.length k with
          | some j => match ds[j]? with
            | some (.lst true es) => (forD g b es (e1.set i .jnk)).bind fun o e2 => .ok o (e2.set i (box d0 (ds.set j (.lst true (es.map fun _ => .jnk)))))
            | _ => .no
          | none => .no
        | none => .no
      | _, _ => .no
    | none => .no
  | none => .no
theorem sok_forMvP {i : Nat} {fk : Ev} {tk : TE} {tg : TG} {tb : TS} {g : Gv} {b : Sv} {Kf : PySem.W.Frag} (hi : P.contains i = true) (hk : EOk W tk fk) (hg : GOk P tg g) (hb : SOk W P tb b) :
    SOk W P (tFor (iSeq Kf (tOp (rIxA Kf) (tVar i) tk)) tg tb) (sForMvP i fk g b) := by
  intro env σ K H Dn s h
  unfold sForMvP at h
  split at h
  case h_2 => exact h.elim
  rename_i d00 hd00
  split at h
  case h_2 => exact h.elim
  rename_i ds00 hk00
  obtain ⟨v0, hv0⟩ := slot_some s hd00 (kids_nj hk00)
  refine ⟨v0, hv0, hk env σ K H _ s (MPost.mono (SPost.bind0 h) fun rk e1 h1 y H1 s1 o1 => ?_)⟩
  split at h1
  case h_2 => exact h1.elim
  rename_i d0 k hd0 hpk
  split at h1
  case h_2 => exact h1.elim
  rename_i ds hkd
  split at h1
  case h_2 => exact h1.elim
  rename_i j hj
  split at h1
  case h_2 => exact h1.elim
  rename_i es hes
  have my := mem_peek (L := rk.ent y ++ K ++ e1.zip σ) (e := e1) (σ := σ) o1 (fun p hp => by simp [hp]) (fun p hp => by simp [hp]) hpk
  have ey := (s1.si.pkm my).atm
  subst ey
  have s2 : Stt H1 K e1 σ := s1.drops
  have s3 := Stt.swap (y := .jnk) (o := some v0) ⟨s2.len, SI.jnk s2.si⟩ hd0 hv0
  obtain ⟨a, vs, v, ev, sq, hl, hv, s4⟩ := SI.split s3.si hkd hes
  subst ev
  have hj' : ixN vs.length k = some j := by rw [← hl]; exact hj
  refine seq_ix hkd sq hj' hv ?_
  obtain ⟨c, ws, eb, hc, _⟩ := s4.pk.lst
  subst eb
  have s5 : Stt H1 ((.lst true es, some (.ref c)) :: (box d0 (ds.set j (.hol (.ref c))), some (.ref a)) :: K) (e1.set i .jnk) σ := ⟨s3.len, s4⟩
  refine ⟨c, rfl, .inl (for_core hg hb s5 ?_)⟩
  have hiP : i ∈ P := List.contains_iff_mem.mp hi
  have hjl : j < ds.length := (List.getElem?_eq_some_iff.mp hes).1
  have put : ∀ (σ' : L2.St) (H' : Hp) (K0 : List Ent) (e2 : EnvD), Pin P σ σ' → Stt H' ((.lst true (es.map fun _ => D.jnk), some (.ref c)) :: (box d0 (ds.set j (.hol (.ref c))), some (.ref a)) :: K0) e2 σ' →
      Stt H' K0 (e2.set i (box d0 (ds.set j (.lst true (es.map fun _ => D.jnk))))) σ' := by
    intro σ' H' K0 e2 pn s'
    have s10 := SI.join (kids_box hkd) s'.si (List.getElem?_set_self hjl)
    rw [box_box, List.set_set] at s10
    have s11 : Stt H' ((box d0 (ds.set j (.lst true (es.map fun _ => D.jnk))), some (.ref a)) :: K0) e2 σ' := ⟨s'.len, s10⟩
    have hv' : σ'[i]? = some (some (.ref a)) := by rw [pn.2 i hiP]; exact hv0
    have hl' : i < e2.length := by rw [s'.len]; exact (List.getElem?_eq_some_iff.mp hv').1
    have s12 := s11.put hl'
    rwa [set_self hv'] at s12
  cases fe : forD g b es (e1.set i .jnk) with
  | no => rw [fe] at h1; exact h1.elim
  | er x e5 =>
    rw [fe] at h1
    exact fun σ' H' da p s' => h1 σ' H' da p (Stt.mid (B := [(D.lst true (es.map fun _ => D.jnk), some (V.ref c)), (box d0 (ds.set j (.hol (.ref c))), some (.ref a))]) s')
  | ok o e5 =>
    rw [fe] at h1
    cases o with
    | nx => exact fun σ' H' p s' => h1 σ' H' p (put σ' H' K e5 p s')
    | ct => exact fun σ' H' p s' => h1 σ' H' p (put σ' H' K e5 p s')
    | bk => exact fun σ' H' p s' => h1 σ' H' p (put σ' H' K e5 p s')
    | rt d => exact fun w σ' H' p s' => h1 w σ' H' p (put σ' H' ((d, some w) :: K) e5 p ⟨s'.len, s'.si.perm ((List.Perm.swap _ _ _).trans ((List.Perm.swap _ _ _).cons _))⟩)
theorem xforMvP (i : Nat) {x : Str} {ke tg : Expr} {body : List Stmt} {fk : Ev} {g : Gv} {b : Sv} {p1 p2 pos : Pos} (hp : PassesOwn (model X.prog X.w) X.A X.env X.xe) (hk : EJ X W ke fk) (hg : GJ X P tg g) (hb : BJ X W P body b) (hi : P.contains i = true := by rfl) (hc : X.calm = true := by rfl) (hN : X.N[i]? = some x := by rfl) (hv : Vis X.env.scope x := by first | exact Or.inl rfl | exact Or.inr (Or.inl rfl) | exact Or.inr (Or.inr rfl)) (hd : (x == ("__debug__" : Str)) = false := by decide) (hcd : (x == ("__classdict__" : Str)) = false := by decide) (hs0 : PlainIx ke := by intro _ _; rfl)
    (hs : ∀ y, foldedSetIterable (.Subscript (.Name x p1) ke p2) X.env y = pure y := by intro _; rfl) : SJ X W P (.For tg (.Subscript (.Name x p1) ke p2) body [] pos) (sForMvP i fk g b) := by
  obtain ⟨t1, q1, k1⟩ := hk
  obtain ⟨t2, q2, k2⟩ := hg
  obtain ⟨tb, q3, k3⟩ := hb
  exact ⟨_, ps_for hp hc (pi_seq (pe_ix (IxR.or ix_list ix_tup) (pe_var hN hv hd hcd) q1 hs0)) q2 q3 hs, sok_forMvP hi k1 k2 k3⟩

/-! ### a slice that takes the items of one's own list with it -/
theorem SI.openL {H : Hp} {ds : List D} {o : Option V} {L : List Ent} (h : SI H ((.lst true ds, o) :: L)) : ∃ a vs, o = some (.ref a) ∧ H a = some (.lst vs) ∧ ds.length = vs.length ∧ SI H (ds.zip (vs.map some) ++ L) := by
  obtain ⟨G, F, ⟨F1, F2, ef, r1, r2⟩, nd, gn, l⟩ := h
  subst ef
  unfold Rep at r1
  obtain ⟨a, vs, F3, e0, r3, ha, e3⟩ := r1
  subst e3
  obtain ⟨r4, hl⟩ := RepL.of_reps r3
  exact ⟨a, vs, e0, ha, hl, G, F3 ++ F2, RepL.append.mpr ⟨F3, F2, rfl, r4, r2⟩, (List.nodup_cons.mp (show (a :: (F3 ++ F2)).Nodup from nd)).2, fun x hx => gn x (List.mem_cons_of_mem _ hx), l⟩
def eSlM (i : Nat) (fl fh : Ov) : Ev := fun e => match e[i]? with
  | some (.lst true _) => (fl e).bind fun lo e2 => (fh e2).bind fun hi e3 => match e3[i]? with
    | some (.lst true ds) => .ok (.val (.lst true (cutX ds lo hi))) (e3.set i .jnk)
    | _ => .no
  | _ => .no
theorem xslM (i : Nat) {x : Str} {lo hi : Option Expr} {fl fh : Ov} {pos p1 p2 : Pos} (hl : OJ X W lo fl) (hh : OJ X W hi fh) (hN : X.N[i]? = some x := by rfl) (hv : Vis X.env.scope x := by first | exact Or.inl rfl | exact Or.inr (Or.inl rfl) | exact Or.inr (Or.inr rfl)) (hd : (x == ("__debug__" : Str)) = false := by decide) (hcd : (x == ("__classdict__" : Str)) = false := by decide) :
    EJ X W (.Subscript (.Name x p1) (.Slice lo hi none p2) pos) (eSlM i fl fh) := by
  obtain ⟨tl, pl, kl⟩ := hl
  obtain ⟨th, ph, kh⟩ := hh
  refine ⟨_, pe_slice sl_list (pe_var hN hv hd hcd) pl ph, fun env σ K H Q s h => ?_⟩
  unfold eSlM at h
  split at h
  case h_2 => exact h.elim
  rename_i ds0 hd0
  obtain ⟨v0, hv0⟩ := slot_some s hd0 rfl
  refine ⟨v0, hv0, ?_⟩
  refine kl env σ K H _ s (MPost.mono (MPost.bind0 h) fun lo e2 h2 H2 s2 => ?_)
  refine kh e2 σ K H2 _ s2 (MPost.mono (MPost.bind0 h2) fun hi e3 h3 H3 s3 => ?_)
  split at h3
  case h_2 => exact h3.elim
  rename_i ds hds
  have s4 := Stt.swap (y := .jnk) (o := some v0) ⟨s3.len, SI.jnk s3.si⟩ hds hv0
  obtain ⟨a, vs, ev, ha, hl, s5⟩ := s4.si.openL
  cases ev
  refine ⟨a, vs, rfl, .inl (.inl ha), fun q hq => h3 _ _ ⟨s4.len, ?_⟩ trivial⟩
  refine SI.newL (vs := cutV vs lo hi) ?_ (cutX_length ds vs lo hi hl) hq
  have e1 : (cutX ds lo hi).zip ((cutV vs lo hi).map some) = cutX (ds.zip (vs.map some)) lo hi := by
    show (cutX ds lo hi).zip ((cutX vs lo hi).map some) = _
    rw [← cutX_map, cutX_zip ds (vs.map some) lo hi (by simpa using hl)]
  rw [e1]
  exact s5.sub (cutX_sub _ lo hi)

/-! ### a dict by pairs -/
theorem valV_ix {q : List L2.Key} : ∀ {ks : List (List L2.Key)} {vs : List V}, ks.length = vs.length → L2.valV (ks.zip vs) q = (ks.findIdx? (fun z => decide (z = q))).bind fun j => vs[j]?
  | [], [], _ => rfl
  | k :: ks, v :: vs, h => by
    have ih := valV_ix (q := q) (ks := ks) (vs := vs) (by simpa using h)
    by_cases c : k = q
    · rw [List.zip_cons_cons, valV_pos c, List.findIdx?_cons]
      simp [c]
    · rw [List.zip_cons_cons, valV_neg c, ih, List.findIdx?_cons]
      simp only [c, decide_false, Bool.false_eq_true, if_false]
      cases ks.findIdx? (fun z => decide (z = q)) <;> simp
theorem SI.kidDm {H : Hp} {own : Bool} {ks : List (List L2.Key)} {ds : List D} {v : V} {L : List Ent} (h : SI H L) (m : (.dct own ks ds, some v) ∈ L) {i : Nat} {d : D} (e : ds[i]? = some d) (f : fzn d = true) :
    ∃ a vs w, v = .ref a ∧ H a = some (.dT (ks.zip vs)) ∧ ks.length = vs.length ∧ vs[i]? = some w ∧ SI H ((d, some w) :: L) := by
  obtain ⟨l1, l2, e0⟩ := List.append_of_mem m
  subst e0
  obtain ⟨G, F, ⟨F1, F2, ef, r1, r2⟩, nd, gn, l⟩ := SI.perm h List.perm_middle
  have r1' := r1
  unfold Rep at r1
  obtain ⟨a, vs, F3, eb, r3, n, lo⟩ := r1
  obtain ⟨w, F', e1, e2⟩ := r3.get i d e
  have := Rep.nil d _ F' e2 f
  subst this
  refine ⟨a, vs, w, Option.some.inj eb, lo.rd l, n.trans (RepL.of_reps r3).2, e1, SI.perm (L := (d, some w) :: (.dct own ks ds, some v) :: (l1 ++ l2)) ?_ (List.perm_middle.symm.cons _)⟩
  exact ⟨G, F, ⟨[], F, rfl, e2, F1, F2, ef, r1', r2⟩, nd, gn, l⟩
def gDg : D → D → Option D := fun d k => match d with
  | .dct _ ks ds => match keyD k with
    | some q => match ks.findIdx? (fun z => decide (z = q)) with
      | some j => match ds[j]? with
        | some z => if fzn z then some z else none
        | none => none
      | none => none
    | none => none
  | _ => none
def gDin : D → D → Option D := fun k d => match d with
  | .dct _ ks _ => match keyD k with
    | some q => some (.atm (.bl (ks.findIdx? (fun z => decide (z = q))).isSome))
    | none => none
  | _ => none
theorem ej_dget (hu : X.A.units + 65 < cLine) {a b : Expr} {fa fb : Ev} {pos : Pos} (ha : EJ X W a fa) (hb : EJ X W b fb) (hs : NoSl b := by intro _ _; rfl) : EJ X W (.Subscript a b pos) (eOp gDg fa fb) := by
  obtain ⟨ta, pa, ka⟩ := ha
  obtain ⟨tb, pb, kb⟩ := hb
  refine ⟨_, pe_dget (by omega) pa pb hs, fun env σ K H Q s h => ?_⟩
  refine ka env σ K H _ s (MPost.mono (MPost.bind0 h) fun ra e1 h1 x H1 s1 o1 => ?_)
  refine kb e1 σ _ H1 _ s1 (MPost.mono (MPost.bind (K0 := ra.ent x) h1) fun rb e2 h2 y H2 s2 o2 => ?_)
  cases px : peek ra e2 with
  | none => simp only [px] at h2; exact h2.elim
  | some dx => cases py : peek rb e2 with
    | none => simp only [px, py] at h2; exact h2.elim
    | some dy =>
      simp only [px, py] at h2
      cases gz : gDg dx dy with
      | none => rw [gz] at h2; exact h2.elim
      | some z =>
        rw [gz] at h2
        have mx := mem_peek (L := rb.ent y ++ (ra.ent x ++ K) ++ e2.zip σ) (e := e2) (σ := σ) o1 (fun p hp => by simp [hp]) (fun p hp => by simp [hp]) px
        have my := mem_peek (L := rb.ent y ++ (ra.ent x ++ K) ++ e2.zip σ) (e := e2) (σ := σ) o2 (fun p hp => by simp [hp]) (fun p hp => by simp [hp]) py
        unfold gDg at gz
        split at gz
        case h_2 => cases gz
        rename_i own ks ds
        split at gz
        case h_2 => cases gz
        rename_i q hq
        split at gz
        case h_2 => cases gz
        rename_i j hj
        split at gz
        case h_2 => cases gz
        rename_i z0 hz0
        split at gz
        case isFalse => cases gz
        rename_i fz0
        cases gz
        obtain ⟨a, vs, w, ev, ha, hl, hw, s3⟩ := s2.si.kidDm mx hz0 fz0
        obtain ⟨b, eb, hb⟩ := keyD_ok hq (s2.si.pkm my)
        subst ev
        subst eb
        refine ⟨a, w, rfl, .inr ⟨_, q, b, .inl ha, rfl, hb, ?_⟩, h2 w H2 ⟨s2.len, ?_⟩ trivial⟩
        · rw [valV_ix hl, hj]
          exact hw.symm
        · have := SI.mid (A := [(z, some w)]) (B := rb.ent (.ref b) ++ ra.ent (.ref a)) (L := K ++ e2.zip σ) (by simpa using s3)
          exact this
theorem ej_din (hu : X.A.units + 65 < cLine) {a b : Expr} {fa fb : Ev} {pos : Pos} (ha : EJ X W a fa) (hb : EJ X W b fb) (hm : behindInMarks .In b = false := by rfl) : EJ X W (.Compare a [.In] [b] pos) (eOp gDin fa fb) := by
  obtain ⟨ta, pa, ka⟩ := ha
  obtain ⟨tb, pb, kb⟩ := hb
  refine ⟨_, pe_cmp (pc_din (by omega) pa pb) hm, fun env σ K H Q s h => ?_⟩
  refine ka env σ K H _ s (MPost.mono (MPost.bind0 h) fun ra e1 h1 x H1 s1 o1 => ?_)
  refine kb e1 σ _ H1 _ s1 (MPost.mono (MPost.bind (K0 := ra.ent x) h1) fun rb e2 h2 y H2 s2 o2 => ?_)
  cases px : peek ra e2 with
  | none => simp only [px] at h2; exact h2.elim
  | some dx => cases py : peek rb e2 with
    | none => simp only [px, py] at h2; exact h2.elim
    | some dy =>
      simp only [px, py] at h2
      cases gz : gDin dx dy with
      | none => rw [gz] at h2; exact h2.elim
      | some z =>
        rw [gz] at h2
        have mx := mem_peek (L := rb.ent y ++ (ra.ent x ++ K) ++ e2.zip σ) (e := e2) (σ := σ) o1 (fun p hp => by simp [hp]) (fun p hp => by simp [hp]) px
        have my := mem_peek (L := rb.ent y ++ (ra.ent x ++ K) ++ e2.zip σ) (e := e2) (σ := σ) o2 (fun p hp => by simp [hp]) (fun p hp => by simp [hp]) py
        unfold gDin at gz
        split at gz
        case h_2 => cases gz
        rename_i own ks ds
        split at gz
        case h_2 => cases gz
        rename_i q hq
        cases gz
        obtain ⟨a, vs, ev, ha, pk, n⟩ := (s2.si.pkm my).dct
        obtain ⟨b, eb, hb⟩ := keyD_ok hq (s2.si.pkm mx)
        subst ev
        subst eb
        have hl : ks.length = vs.length := n.trans pk.1
        have ho : (L2.valV (ks.zip vs) q).isSome = (ks.findIdx? (fun z => decide (z = q))).isSome := by
          rw [valV_ix hl]
          cases hj : ks.findIdx? (fun z => decide (z = q)) with
          | none => rfl
          | some j =>
            obtain ⟨hj1, _⟩ := List.findIdx?_eq_some_iff_getElem.mp hj
            show vs[j]?.isSome = _
            rw [List.getElem?_eq_getElem (hl ▸ hj1)]
            rfl
        refine ⟨a, L2.valV (ks.zip vs) q, rfl, .inr ⟨_, q, b, .inl ha, rfl, hb, rfl⟩, ?_⟩
        rw [ho]
        exact h2 _ H2 ⟨s2.len, (SI.drops (M := rb.ent (.ref a) ++ ra.ent (.ref b)) (by have := s2.si; simpa using this)).atm nr_bl⟩ trivial
end
end VS
set_option Elab.async false
set_option linter.all false
set_option maxRecDepth 100000
set_option maxHeartbeats 2000000
namespace VS
open PySem PySem.Spec PySem.W PySem.Calls PyProof.Rows PySem.HandSPX L2
/-! ### an own exception of a tuple: super().__init__('..'); self.f = tuple(f) -/
def SxMkT (prog : Program) (w : World) (K : Frag) (mg : Str → Option Value) (C fI : Addr) (fld : Str) : Prop :=
  ∀ (A : Around) (R : Result → Shared → Prop) (s : Shared) (mb : Str → Option Value) (x t0 b : Addr) (its : Array Value), s.heap.IsTuple b its → K.In s.heap → s.heap.NoLimit → s.heap.Ns mainGlobals mg → mg "super" = none → mg "tuple" = none →
    s.heap.Ns builtinsNs mb → (∀ n : Str, n ≠ "__name__" → mb n = bootBuiltins n) →
    s.heap.get? x = some (excO C t0) → K.lookup x = none → A.depth + 8 < recursionLimit → A.units + 16 < cLine →
    (∀ h' tk dx, SxEnd s.heap.objs.size s.heap h' x C dx fld (.ref b) → R (.ok (.ret .none)) { s with heap := h', toks := tk }) →
    codeAny (model prog w) A (.call (.ref fI) ⟨[.ref x, .ref b], []⟩) R s
section
variable {prog : Program} {w : World} {K : Frag} {mg : Str → Option Value} {C fI cc cda : Addr} {fd : FuncData} {pn fld : Str}
theorem sx_mkT {msg : Str} {kk : Nat} {p0 p1 p2 p3 p4 p5 q1 q2 a1 a2 a4 b7 b8 b9 : Pos} {nm qual : Str} {dV kV doc pm cdv ct : Value} {an : Option Addr} {sc : Scope} (S : ScX sc pn) (SR : sc.names.lookup ("tuple" : Str) = some .globalImplicit) (T : SxT prog K C fI cc cda fd pn fld)
    (hfd : fd = fnX nm qual (sxArgs pn q1 q2) [sxHead msg kk p0 p1 p2 p3 p4 p5, .Assign [.Attribute (.Name "self" a1) fld a2] (.Call (.Name "tuple" b7) [.Name pn b8] [] b9) a4] sc [(("__class__" : Str), cc)] dV kV doc pm an cdv ct) {pl : Sem Bool}
    (hev : ∀ env : Env, eval (.Call (.Attribute (.Call (.Name "super" p0) [] [] p1) "__init__" p2) [.Constant (.str msg) kk p3] [] p4) env = (do
      let ov ← attributeBase (.Call (.Name "super" p0) [] [] p1) "__init__" env (eval (.Call (.Name "super" p0) [] [] p1) env)
      standAt p2.atName
      let (f, first) ← holding [ov] (getMethod ov "__init__" pl)
      callWith p4 f first (backTo p4 (starEach [.Constant (.str msg) kk p3] env)) []))
    (hbind : ∀ a b : Value, bindArgs fd ⟨[a, b], []⟩ = pure [(("self" : Str), a), (pn, b)]) (hpn : pn ≠ "self" ∧ pn ≠ "__class__" ∧ pn ≠ "super" ∧ pn ≠ "__debug__")
    (hs : ∀ env : Env, swapsWith (.Call (.Name "tuple" b7) [.Name pn b8] [] b9) (some (.Attribute (.Name "self" a1) fld a2)) a4.line env = pure false) : SxMkT prog w K mg C fI fld := by
  intro A R s mb x t0 b its ht X hlim G hmg mt B hmb hx hnx hd hu hq
  refine sx_init S T hfd hev hbind hpn X hlim G hmg B ((hmb _ (by decide)).trans (by decide +kernel)) hx hnx (by omega) (fun h₂ g d t os t1 L Q E X₂ G₂ B₂ hL kp hx₂ hxL hn hq₂ => ?_) hq
  subst hfd
  have c1 : (pn == ("self" : Str)) = false := by simpa using hpn.1
  have c1' : (("self" : Str) == pn) = false := by simpa using Ne.symm hpn.1
  have hm : (fun y => [(("self" : Str), Value.ref x), (pn, Value.ref b)].reverse.lookup y) pn = some (Value.ref b) := by simp [List.lookup]
  have ht₂ : h₂.IsTuple b its := by
    obtain ⟨o, ho, hc, n, hd'⟩ := ht
    refine ⟨o, kp b o (fun z => ?_) ho, hc, n, hd'⟩
    rw [z, hx] at ho
    cases ho
    cases hc
  refine sx_store T S.kind X₂ hx₂ hn S.self (by simp [List.lookup, c1']) ?_ hq₂ (hs _)
  refine wpAny_Call_Name_kw ?_
  refine Calls.Name_function_global S.kind SR (Calls.loadGlobal_builtin G₂ mt B₂ ((hmb _ (by decide)).trans PyProof.Rows.boot_tuple) ?_) (by decide)
  refine PyProof.Rows.callWith_type1 ?_ rfl rfl
  refine spliced_cons ?_
  refine ldN S.kind hn S.par hm (by simpa using hpn.2.2.2) ?_
  refine spliced_nil ?_
  exact call_tuple_same ht₂ ⟨h₂, t, rfl, rfl, fun _ _ e => e⟩
end
def tMkT (C : Addr) (fld : Str) (ta : TA) : L2.St → Hp → XK → Prop := fun σ H Q => ta σ H fun vs H1 => ∃ b ys, vs = [.ref b] ∧ H1 b = some (.tup ys) ∧ ∀ d, H1 d = none → Q (.ref C) (some d) (upd H1 d (.xd [(fld, .ref b)]))
section
variable {X : Cx} {W : WX} {P : List Nat} {C fI cc cda : Addr} {fd : FuncData} {pn fld : Str}
theorem pmk_sxT {x : Str} {a : Expr} {ta : TA} {p pos : Pos} {k : Nat} (T : SxT X.prog X.K C fI cc cda fd pn fld) (MK : SxMkT X.prog X.w X.K X.mg C fI fld) (hr : Room k X.A) (hk : 3 ≤ k) (ha : PA X [a] ta) (hm : X.mg x = some (.ref C))
    (n1 : X.mg "super" = none) (n4 : X.mg "tuple" = none) (hg : Gl X x) (hdb : (x == ("__debug__" : Str)) = false)
    (he : starEach (a :: []) X.env = (false, eval a X.env) :: starEach [] X.env) (hpl : (backTo pos (starEach [] X.env)).any (·.1) = false) :
    PMk X (.Call (.Name x p) [a] [] pos) (tMkT C fld ta) := by
  intro pins s σ H Q I h
  obtain ⟨nm, q, N, bs, bm, sn, sub, ab, col, dd, k0, k1, k2, k3, k5, hC, hbm⟩ := T.ox.cls
  refine wpAny_Call_Name_kw (ld_glob I hg hm ?_ hdb)
  refine PySem.W.callWith_K (h₀ := X.base) I.ok.mod.kin T.ox.kC (thn (ha.run pos pins s σ H _ I h) fun us s1 hh => ?_) he hpl
  obtain ⟨vs, H1, I1, r1, b, ys, ev, hb, q1⟩ := hh
  subst ev
  refine ⟨I1.kIn, ?_⟩
  cases r1 with
  | cons rv rn =>
    rename_i v' us'
    cases rn
    cases (show v' = Value.ref b from rv)
    show wpAny _ _ (call (.ref C) [.ref b]) _ _ _
    have hlim := I1.nolimit
    obtain ⟨mb, hB, hmb⟩ := I1.ok.mod.blt
    obtain ⟨kk, rfl⟩ : ∃ kk, k = kk + 3 := ⟨k - 3, by omega⟩
    have hr1 : Room (kk + 2) (X.A.under (.builtin "type.__call__" ⟨.ref C :: [.ref b], []⟩)) := hr.make C [.ref b] []
    have bk0 := I1.bk
    obtain ⟨its, r', pl, hz⟩ := I1.tuple (xs := ys) (.inl (.inl hb))
    obtain ⟨hp, g, dr, tk, os⟩ := s1
    have kpp : ∀ b' o, hp.get? b' = some o → ((hp.push (kdv_tup [.ref b])).push (excO C hp.objs.size)).get? b' = some o := fun b' o e => Heap.get?_push_of_some _ (Heap.get?_push_of_some _ e)
    have hget : ((hp.push (kdv_tup [.ref b])).push (excO C hp.objs.size)).get? (hp.objs.size + 1) = some (excO C hp.objs.size) := by heap_get
    have hnx : X.K.lookup (hp.objs.size + 1) = none := by
      cases e : X.K.lookup (hp.objs.size + 1) with
      | none => rfl
      | some o =>
        have z : hp.get? (hp.objs.size + 1) = some o := I1.kIn _ _ e
        exact absurd (Nat.lt_of_succ_lt (Heap.lt_size z)) (Nat.lt_irrefl _)
    have pl2 : ((hp.push (kdv_tup [.ref b])).push (excO C hp.objs.size)).IsTuple b its.toArray := by
      obtain ⟨o, ho, hc, n, hd'⟩ := pl
      exact ⟨o, kpp b o ho, hc, n, hd'⟩
    refine wpAny_call (call_own PySem.F.excBase_ValueError (fun Y => refsVE_contains Y bm hbm) (I1.kIn _ _ hC) (looks_findIn I1.kIn T.iC) (fun self => bind_fn I1.kIn self T.tI) (size_one _) ?_)
    refine MK _ _ ⟨(hp.push (kdv_tup [.ref b])).push (excO C hp.objs.size), g, dr, tk, os⟩ mb _ _ b _ pl2 (I1.kIn.keeps kpp) (hlim.keeps kpp) (I1.ok.mod.glob.keeps fun b o e => kpp b o (bk0 b o e)) n1 n4 (hB.keeps fun b o e => kpp b o (bk0 b o e)) hmb hget hnx (by have := hr1.dp; omega) (by have := hr1.un; omega) fun h' tk' dx M => ?_
    refine ⟨rfl, ?_⟩
    show MkP X pins σ Q (.ref (hp.objs.size + 1)) ⟨h', g, dr, tk', os⟩
    obtain ⟨t1, hobj⟩ := M.obj
    obtain ⟨G', g1, g2⟩ := restrict h' fun b => decide (b ≠ hp.objs.size + 1)
    have gk : ∀ b, b ≠ hp.objs.size + 1 → G'.get? b = h'.get? b := fun b hb => g1 b (decide_eq_true hb)
    have gee : G'.get? (hp.objs.size + 1) = none := g2 _ (by simp)
    have kold : ∀ b o, hp.get? b = some o → h'.get? b = some o := fun b o e => M.keep b o (Nat.ne_of_lt (Nat.lt_succ_of_lt (Heap.lt_size e))) (kpp b o e)
    have old : ∀ b o, hp.get? b = some o → G'.get? b = some o := fun b o e => (gk b (Nat.ne_of_lt (Nat.lt_succ_of_lt (Heap.lt_size e)))).trans (kold b o e)
    have dbig : hp.objs.size ≤ dx := by
      have := M.dbig
      simp only [Heap.size_push] at this
      omega
    have ob : ObjOk X.prog X.w (upd H1 dx (.xd [(fld, .ref b)])) G' dx (.xd [(fld, .ref b)]) :=
      ⟨_, M.ns.at (fun o e => (gk dx M.dne).trans e), fun f => relO_one (v := .ref b) rfl f⟩
    have Jv : Inv X pins σ (upd H1 dx (.xd [(fld, .ref b)])) ⟨G', g, dr, tk', os⟩ := I1.laid (t' := tk') old dbig ob
    refine ⟨hp.objs.size + 1, _, _, ⟨G', g, dr, tk', os⟩, _, .ref C, some dx, rfl, Jv, fun b o e => ?_, gee, hobj, ⟨rfl, rfl⟩, rfl, rfl, ?_, rfl, I1.bare, raises_own T.ox.exC T.ox.tyC, q1 dx (I1.hok.fresh dbig)⟩
    · by_cases hb : b = hp.objs.size + 1
      · have e' : G'.get? b = some o := e
        rw [hb, gee] at e'; cases e'
      · exact (gk b hb).symm.trans e
    · rw [upd_ne (Ne.symm M.dne)]
      exact I1.hok.fresh (Nat.le_succ _)
def okT : D → Bool
  | .tup _ => true
  | _ => false
structure RzT (prog : Program) (w : World) (K : PySem.W.Frag) (mg : Str → Option Value) (C : Addr) (fld : Str) : Prop where
  ex : ∃ fI cc cda fd pn, SxT prog K C fI cc cda fd pn fld ∧ SxMkT prog w K mg C fI fld
  n1 : mg "super" = none
  n4 : mg "tuple" = none
theorem xraiseT {x fld : Str} {a : Expr} {fa : Av} {p pos pos2 : Pos} {k : Nat} (tk : Takes X W) (Z : RzT X.prog X.w X.K X.mg (He.ga X.K x) fld) (hr : Room k X.A) (hm : X.mg x = some (.ref (He.ga X.K x))) (ha : AJ X W [a] fa) (hk : 3 ≤ k := by decide) (hc : X.calm = true := by rfl) (hg : Gl X x := by rfl) (hdb : (x == ("__debug__" : Str)) = false := by decide)
    (he : starEach (a :: []) X.env = (false, eval a X.env) :: starEach [] X.env := by rfl) (hpl : (backTo pos (starEach [] X.env)).any (·.1) = false := by rfl) :
    SJ X W P (.Raise (some (.Call (.Name x p) [a] [] pos)) none pos2) (sRaise (He.ga X.K x) fld okT fa) := by
  obtain ⟨fI, cc, cda, fd, pn, T, MK⟩ := Z.ex
  obtain ⟨t, q, kk⟩ := ha
  refine ⟨_, ps_raise hc tk (pmk_sxT T MK hr hk q hm Z.n1 Z.n4 hg hdb he hpl), fun env σ K H Dn s h => ?_⟩
  refine kk env σ K H _ s (MPost.mono (SPost.bind0 h) fun rs e1 h1 vs H1 s1 o1 => ?_)
  split at h1
  case h_2 => exact h1.elim
  rename_i d hv
  split at h1
  case isFalse => exact h1.elim
  rename_i hd
  obtain ⟨ez, el⟩ := vals_ents hv o1
  match vs, el with
  | [v], _ =>
    have s2 : Stt H1 ((d, some v) :: K) e1 σ := by
      have := s1
      rw [ez] at this
      exact this
    cases d with
    | tup ys =>
      obtain ⟨b, vs', ev, hb, _⟩ := s2.si.pk.tup
      subst ev
      refine ⟨b, vs', rfl, hb, fun da hda => h1 σ _ da Pin.refl ⟨s1.len, ?_⟩⟩
      exact SI.newX (ns := [fld]) (ds := [fz (.tup ys)]) (vs := [.ref b]) s2.si.fz rfl rfl hda
    | _ => cases hd
end
end VS
set_option Elab.async false
set_option linter.all false
set_option maxRecDepth 100000
set_option maxHeartbeats 2000000
namespace VS
open PySem PySem.Spec PyProof.Rows L2 L2H
variable {X : Cx} {W : WX} {P : List Nat}
/-! ### not in, of one's own classes -/
def gNinA (os : List (Addr × Fv)) : D → D → Option D := fun x y => match y with
  | .ins o c ns ds => match ownL os c with
    | some g => match ownD 2 g [.ins o c ns ds, x] with
      | some (.atm (.bl b)) => some (.atm (.bl (!b)))
      | _ => none
    | none => none
  | y => gIn true x y
def rNinO (os : List (Addr × Fv)) : R2 := fun x y H Q => ∃ a dx fs C g, y = .ref a ∧ H a = some (.ins C dx fs) ∧ ownL os C = some g ∧ spD 2 g [y, x] H (fun v H' => ∃ b, v = .bl b ∧ Q (.bl (!b)) H') E0
theorem op_ninO {kk : Nat} {os : List (Addr × Fv)} (S : OwnS X "__contains__" 2 kk os) (hr : Room kk X.A) : OpR X (compareOp .NotIn) (rNinO os) := by
  intro pins s σ H x y v u Q I rx ry h
  obtain ⟨a, dx, fs, C, g, rfl, ha, hg, q⟩ := h
  obtain ⟨cn, k, ps, rfl, m, F, hk⟩ := S.get hg
  cases (show u = Value.ref a from ry)
  obtain ⟨od, J⟩ := inst_of I ha
  obtain ⟨fd, F, hb, _⟩ := F
  show wpAny _ _ (contains (.ref a) v >>= fun b => pure (Value.bool (!b))) _ _ _
  refine wpAny_bind (contains_K I.kIn J m.at_ m.fn (wpAny_mono (run_fnS (us := [.ref a, v]) (vs := [.ref a, x]) (E := fun _ => E0) F (hr.mono hk) hb (pass00 σ) I (.cons rfl (.cons rx .nil)) q) (fun w s' z => ?_) fun _ _ x => x))
  obtain ⟨z', H', I', rz, b, rfl, qz⟩ := z
  cases (show w = Value.bool b from rz)
  exact wpAny_pure ⟨.bl (!b), H', I', rfl, qz⟩
def rNinA (Kf : PySem.W.Frag) (os : List (Addr × Fv)) : R2 := fun x y H Q => rNotInD Kf x y H Q ∨ rNinO os x y H Q
theorem o_ninA {kk : Nat} {os : List (Addr × Fv)} (S : OwnS X "__contains__" 2 kk os) (hr : Room kk X.A) (hu : X.A.units + 65 < cLine) : OpR X (compareOp .NotIn) (rNinA X.K os) ∧ Op2 (rNinA X.K os) (gNinA os) := by
  constructor
  · intro pins s σ H x y v u Q I rx ry h
    rcases h with h | h
    · exact (o_notin hu).1 pins s σ H x y v u Q I rx ry h
    · exact op_ninO S hr pins s σ H x y v u Q I rx ry h
  · intro H L x y dx dy z Q s mx my hz q
    have old : gIn true dx dy = some z → rNinA X.K os x y H Q := fun hz => .inl ((op2_notin X.K) H L x y dx dy z Q s mx my hz q)
    unfold gNinA at hz
    split at hz
    · rename_i o c ns ds
      split at hz
      · rename_i g hg
        split at hz
        · rename_i b hb
          cases hz
          obtain ⟨a, dxx, vs, rfl, ha, _⟩ := (s.pkm my).ins
          refine .inr ⟨a, dxx, _, c, g, rfl, ha, hg, own_sp (ds := [_, _]) s ⟨my, mx, trivial⟩ hb fun u H' s' => ?_⟩
          have e := s'.pk.atm
          subst e
          exact ⟨b, rfl, q _ H' (s'.drop.atm nr_bl)⟩
        · cases hz
      · cases hz
    · exact old hz
/-! ### x + e, all that is in both goes with it -/
def eAddM (i : Nat) (fb : Ev) : Ev := fun e => match e[i]? with
  | some (.lst true _) => (fb e).bind fun rb e2 => match e2[i]?, rb with
    | some (.lst true ds), .val (.lst true es) => if ds.length + es.length ≤ 16777216 then .ok (.val (.lst true (ds ++ es))) (e2.set i .jnk) else .no
    | _, _ => .no
  | _ => .no
theorem xaddM (i : Nat) {x : Str} {b : Expr} {fb : Ev} {p1 pos : Pos} (hb : EJ X W b fb) (hN : X.N[i]? = some x := by rfl) (hv : Vis X.env.scope x := by first | exact Or.inl rfl | exact Or.inr (Or.inl rfl) | exact Or.inr (Or.inr rfl)) (hd : (x == ("__debug__" : Str)) = false := by decide) (hcd : (x == ("__classdict__" : Str)) = false := by decide) :
    EJ X W (.BinOp (.Name x p1) .Add b pos) (eAddM i fb) := by
  obtain ⟨t, p, k⟩ := hb
  refine ⟨_, pe_op op_cat (pe_var hN hv hd hcd) p, fun env σ K H Q s h => ?_⟩
  unfold eAddM at h
  split at h
  case h_2 => exact h.elim
  rename_i ds0 hd0
  obtain ⟨v0, hv0⟩ := slot_some s hd0 rfl
  refine ⟨v0, hv0, k env σ K H _ s (MPost.mono (MPost.bind0 h) fun rb e2 h2 y H2 s2 o2 => ?_)⟩
  split at h2
  case h_2 => exact h2.elim
  rename_i ds es hds
  split at h2
  case isFalse => exact h2.elim
  rename_i hl0
  have s2' : Stt H2 ((D.lst true es, some y) :: K) e2 σ := s2
  have s4 := Stt.swap (y := .jnk) (o := some v0) ⟨s2'.len, SI.jnk s2'.si⟩ hds hv0
  obtain ⟨a, vs, ev, ha, hl, s5⟩ := s4.si.openL
  cases ev
  have s6 : SI H2 ((D.lst true es, some y) :: (ds.zip (vs.map some) ++ (K ++ (e2.set i .jnk).zip σ))) := s5.perm List.perm_middle
  obtain ⟨b, ws, eb, hb, hl2, s7⟩ := s6.openL
  cases eb
  refine ⟨a, b, vs, ws, rfl, rfl, ha, hb, by rw [← hl, ← hl2, sizeLine_eq]; exact hl0, fun q hq => h2 _ _ ⟨s4.len, ?_⟩ trivial⟩
  refine SI.newL (vs := vs ++ ws) ?_ (by simp [hl, hl2]) hq
  rw [List.map_append, List.zip_append (by simpa using hl)]
  refine s7.perm ?_
  show (es.zip (List.map some ws) ++ (ds.zip (List.map some vs) ++ (K ++ (List.set e2 i D.jnk).zip σ))).Perm ((ds.zip (List.map some vs) ++ es.zip (List.map some ws)) ++ (K ++ (List.set e2 i D.jnk).zip σ))
  rw [← List.append_assoc]
  exact List.perm_append_comm.append_right _
end VS
set_option Elab.async false
set_option linter.all false
set_option maxRecDepth 100000
set_option maxHeartbeats 2000000
namespace VS
open PySem PySem.Spec PyProof.Rows L2 L2H
/-! ### the D-level runs of V34 to V37 -/
def kTRo (e : EnvD) : M Bool → M Bool
  | .ok b _ => .ok b e
  | _ => .no
def kForV (g : Gv) (b : Sv) : M R → M Out
  | .ok (.val (.lst true ds)) e => forD g b ds e
  | .er x e => .er x e
  | _ => .no
def kFP4 (i j : Nat) (d0 : D) (ds es : List D) : M Out → M Out
  | .ok o e => .ok o (e.set i (box d0 (ds.set j (.lst true (es.map fun _ => .jnk)))))
  | .er x e => .er x e
  | .no => .no
def kFP3 (i j : Nat) (g : Gv) (b : Sv) (d0 : D) (ds : List D) : Option D → EnvD → M Out
  | some (.lst true es), e => kFP4 i j d0 ds es (forD g b es (e.set i .jnk))
  | _, _ => .no
def kFP2 (i : Nat) (g : Gv) (b : Sv) (d0 : D) (ds : List D) : Option Nat → EnvD → M Out
  | some j, e => kFP3 i j g b d0 ds ds[j]? e
  | none, _ => .no
def kFP1b (i : Nat) (g : Gv) (b : Sv) (d0 : D) (k : Int) : Option (List D) → EnvD → M Out
  | some ds, e => kFP2 i g b d0 ds (ixN ds.length k) e
  | none, _ => .no
def kFP1 (i : Nat) (g : Gv) (b : Sv) : Option D → Option D → EnvD → M Out
  | some d0, some (.atm (.int k)), e => kFP1b i g b d0 k (kids d0) e
  | _, _, _ => .no
def kFP0 (i : Nat) (g : Gv) (b : Sv) : M R → M Out
  | .ok rk e => kFP1 i g b e[i]? (peek rk e) e
  | .er x e => .er x e
  | .no => .no
def kFPz2 (i : Nat) (fk : Ev) (g : Gv) (b : Sv) : Option (List D) → EnvD → M Out
  | some _, e => kFP0 i g b (fk e)
  | none, _ => .no
def kFPz (i : Nat) (fk : Ev) (g : Gv) (b : Sv) : Option D → EnvD → M Out
  | some d, e => kFPz2 i fk g b (kids d) e
  | none, _ => .no
def kSm3 (i : Nat) (lo hi : Option Int) : Option D → EnvD → M R
  | some (.lst true ds), e => .ok (.val (.lst true (cutX ds lo hi))) (e.set i .jnk)
  | _, _ => .no
def kSm2 (i : Nat) (lo : Option Int) : M (Option Int) → M R
  | .ok hi e => kSm3 i lo hi e[i]? e
  | .er x e => .er x e
  | .no => .no
def kSm1 (i : Nat) (fh : Ov) : M (Option Int) → M R
  | .ok lo e => kSm2 i lo (fh e)
  | .er x e => .er x e
  | .no => .no
def kSm (i : Nat) (fl fh : Ov) : Option D → EnvD → M R
  | some (.lst true _), e => kSm1 i fh (fl e)
  | _, _ => .no
def kAm3 (i : Nat) (es : List D) : Option D → EnvD → M R
  | some (.lst true ds), e => if ds.length + es.length ≤ 16777216 then .ok (.val (.lst true (ds ++ es))) (e.set i .jnk) else .no
  | _, _ => .no
def kAm2 (i : Nat) : M R → M R
  | .ok (.val (.lst true es)) e => kAm3 i es e[i]? e
  | .er x e => .er x e
  | _ => .no
def kAm (i : Nat) (fb : Ev) : Option D → EnvD → M R
  | some (.lst true _), e => kAm2 i (fb e)
  | _, _ => .no
def kIdx4 : Option D → Option D → EnvD → M R
  | some l, some x, e => kV (gIdx l x) e
  | _, _, _ => .no
def kIdx3 (ra : R) : M R → M R
  | .ok rb e => kIdx4 (peek ra e) (peek rb e) e
  | .er x e => .er x e
  | .no => .no
def kIdx2 (fe : Ev) (ra : R) : Option D → EnvD → M R
  | some d, e => if isL d then kIdx3 ra (fe e) else .no
  | none, _ => .no
def kIdx (fe : Ev) : M R → M R
  | .ok ra e => kIdx2 fe ra (peek ra e) e
  | .er x e => .er x e
  | .no => .no
section
variable {i j : Nat} {f : Tv} {a fk fb fo fe : Ev} {g : Gv} {b : Sv} {e e' : EnvD} {ds es : List D} {d d0 l x : D} {rk ra rb : R} {k : Int} {o : Out} {fl fh : Ov} {lo hi : Option Int} {bb : Bool} {ex : Exn}
@[simp] theorem tRo_e : tRo f e = kTRo e (f (e.map fz)) := by unfold tRo kTRo; cases f (e.map fz) <;> rfl
@[simp] theorem kTRo_ok : kTRo e (.ok bb e') = .ok bb e := (rfl)
@[simp] theorem sForV_e : sForV a g b e = kForV g b (a e) := by
  unfold sForV kForV
  rcases a e with _ | ⟨_, _⟩ | ⟨(d | _), _⟩
  · rfl
  · rfl
  · cases d with
    | lst o ds => cases o <;> rfl
    | _ => rfl
  · rfl
@[simp] theorem kForV_ok : kForV g b (.ok (.val (.lst true ds)) e) = forD g b ds e := (rfl)
@[simp] theorem sForMvP_e : sForMvP i fk g b e = kFPz i fk g b e[i]? e := by
  unfold sForMvP kFPz
  cases e[i]? with
  | none => rfl
  | some d00 =>
    simp only
    unfold kFPz2
    cases kids d00 with
    | none => rfl
    | some ds0 =>
      simp only
      unfold kFP0
      cases fk e with
      | no => rfl
      | er x e => rfl
      | ok rk e1 =>
        simp only [bind_ok]
        cases e1[i]? with
        | none => rfl
        | some d0 => cases peek rk e1 with
          | none => rfl
          | some kd => cases kd with
            | atm v => cases v with
              | int k =>
                simp only [kFP1]
                cases kids d0 with
                | none => rfl
                | some ds =>
                  simp only [kFP1b]
                  cases ixN ds.length k with
                  | none => rfl
                  | some j =>
                    simp only [kFP2]
                    cases ds[j]? with
                    | none => rfl
                    | some y => cases y with
                      | lst o es => cases o with
                        | false => rfl
                        | true =>
                          simp only [kFP3]
                          cases forD g b es (e1.set i .jnk) <;> rfl
                      | _ => rfl
              | _ => rfl
            | _ => rfl
@[simp] theorem kFPz_ok : kFPz i fk g b (some d) e = kFPz2 i fk g b (kids d) e := (rfl)
@[simp] theorem kFPz2_ok : kFPz2 i fk g b (some ds) e = kFP0 i g b (fk e) := (rfl)
@[simp] theorem kFP0_ok : kFP0 i g b (.ok rk e) = kFP1 i g b e[i]? (peek rk e) e := (rfl)
@[simp] theorem kFP1_ok : kFP1 i g b (some d0) (some (.atm (.int k))) e = kFP1b i g b d0 k (kids d0) e := (rfl)
@[simp] theorem kFP1b_ok : kFP1b i g b d0 k (some ds) e = kFP2 i g b d0 ds (ixN ds.length k) e := (rfl)
@[simp] theorem kFP2_ok : kFP2 i g b d0 ds (some j) e = kFP3 i j g b d0 ds ds[j]? e := (rfl)
@[simp] theorem kFP3_ok : kFP3 i j g b d0 ds (some (.lst true es)) e = kFP4 i j d0 ds es (forD g b es (e.set i .jnk)) := (rfl)
@[simp] theorem kFP4_ok : kFP4 i j d0 ds es (.ok o e) = .ok o (e.set i (box d0 (ds.set j (.lst true (es.map fun _ => .jnk))))) := (rfl)
@[simp] theorem eSlM_e : eSlM i fl fh e = kSm i fl fh e[i]? e := by
  unfold eSlM kSm
  cases e[i]? with
  | none => rfl
  | some d => cases d with
    | lst o ds => cases o with
      | false => rfl
      | true =>
        simp only
        unfold kSm1
        cases fl e with
        | no => rfl
        | er x e => rfl
        | ok lo e1 =>
          simp only [bind_ok]
          unfold kSm2
          cases fh e1 with
          | no => rfl
          | er x e => rfl
          | ok hi e2 =>
            simp only [bind_ok]
            unfold kSm3
            cases e2[i]? with
            | none => rfl
            | some d => cases d with
              | lst o ds => cases o <;> rfl
              | _ => rfl
    | _ => rfl
@[simp] theorem kSm_ok : kSm i fl fh (some (.lst true ds)) e = kSm1 i fh (fl e) := (rfl)
@[simp] theorem kSm1_ok : kSm1 i fh (.ok lo e) = kSm2 i lo (fh e) := (rfl)
@[simp] theorem kSm2_ok : kSm2 i lo (.ok hi e) = kSm3 i lo hi e[i]? e := (rfl)
@[simp] theorem kSm3_ok : kSm3 i lo hi (some (.lst true ds)) e = .ok (.val (.lst true (cutX ds lo hi))) (e.set i .jnk) := (rfl)
@[simp] theorem eAddM_e : eAddM i fb e = kAm i fb e[i]? e := by
  unfold eAddM kAm
  cases e[i]? with
  | none => rfl
  | some d => cases d with
    | lst o ds => cases o with
      | false => rfl
      | true =>
        simp only
        cases fb e with
        | no => rfl
        | er x e => rfl
        | ok rb e1 =>
          simp only [bind_ok]
          cases rb with
          | slot j =>
            show _ = M.no
            cases e1[i]? with
            | none => rfl
            | some d => cases d with
              | lst o ds => cases o <;> rfl
              | _ => rfl
          | val y => cases y with
            | lst o es => cases o with
              | true =>
                show _ = kAm3 i es e1[i]? e1
                cases e1[i]? with
                | none => rfl
                | some d => cases d with
                  | lst o ds => cases o <;> rfl
                  | _ => rfl
              | false =>
                show _ = M.no
                cases e1[i]? with
                | none => rfl
                | some d => cases d with
                  | lst o ds => cases o <;> rfl
                  | _ => rfl
            | _ =>
                show _ = M.no
                cases e1[i]? with
                | none => rfl
                | some d => cases d with
                  | lst o ds => cases o <;> rfl
                  | _ => rfl
    | _ => rfl
@[simp] theorem kAm_ok : kAm i fb (some (.lst true ds)) e = kAm2 i (fb e) := (rfl)
@[simp] theorem kAm2_ok : kAm2 i (.ok (.val (.lst true es)) e) = kAm3 i es e[i]? e := (rfl)
@[simp] theorem kAm3_ok : kAm3 i es (some (.lst true ds)) e = if ds.length + es.length ≤ 16777216 then .ok (.val (.lst true (ds ++ es))) (e.set i .jnk) else .no := (rfl)
@[simp] theorem eIdx_e : eIdx fo fe e = kIdx fe (fo e) := by
  unfold eIdx kIdx
  cases fo e with
  | no => rfl
  | er x e => rfl
  | ok ra e1 =>
    simp only [bind_ok]
    unfold kIdx2
    cases peek ra e1 with
    | none => rfl
    | some d =>
      simp only
      split
      · unfold kIdx3
        cases fe e1 with
        | no => rfl
        | er x e => rfl
        | ok rb e2 =>
          simp only [bind_ok]
          unfold kIdx4
          cases peek ra e2 with
          | none => rfl
          | some l => cases peek rb e2 with
            | none => rfl
            | some x =>
              simp only
              unfold kV
              cases gIdx l x <;> rfl
      · rfl
@[simp] theorem kIdx_ok : kIdx fe (.ok ra e) = kIdx2 fe ra (peek ra e) e := (rfl)
@[simp] theorem kIdx2_ok {o : Bool} : kIdx2 fe ra (some (.lst o ds)) e = kIdx3 ra (fe e) := (rfl)
@[simp] theorem kIdx3_ok : kIdx3 ra (.ok rb e) = kIdx4 (peek ra e) (peek rb e) e := (rfl)
@[simp] theorem kIdx4_ok : kIdx4 (some l) (some x) e = kV (gIdx l x) e := (rfl)
@[simp] theorem gBool_b : gBool [.atm (.bl bb)] = some (.atm (.bl bb)) := (rfl)
@[simp] theorem okT_t : okT (.tup ds) = true := (rfl)
end
/-! own classes -/
section
variable {C : Addr} {g : Fv} {os : List (Addr × Fv)} {ns ns' : List Str} {ds ds' fin : List D} {x : D} {b : Bool} {n : Int}
theorem gInA_own (hf : fzns ds = true) (hx : fzn x = true) (h : g [.ins false C ns ds, x] = .ok (.atm (.bl b)) fin) : gInA ((C, g) :: os) x (.ins false C ns ds) = some (.atm (.bl b)) := by
  unfold gInA ownL ownD
  simp [fzns, fzn, hf, hx, h]
theorem gNinA_own (hf : fzns ds = true) (hx : fzn x = true) (h : g [.ins false C ns ds, x] = .ok (.atm (.bl b)) fin) : gNinA ((C, g) :: os) x (.ins false C ns ds) = some (.atm (.bl (!b))) := by
  unfold gNinA ownL ownD
  simp [fzns, fzn, hf, hx, h]
theorem gLenA_own (hf : fzns ds = true) (hn : 0 ≤ n ∧ n < 9223372036854775808) (h : g [.ins false C ns ds] = .ok (.atm (.int n)) fin) : gLenA ((C, g) :: os) [.ins false C ns ds] = some (.atm (.int n)) := by
  unfold gLenA ownL ownD
  simp [fzns, fzn, hf, h, hn.1, hn.2]
theorem gEqA_own (hf : fzns ds = true) (hf' : fzns ds' = true) (h : g [.ins false C ns ds, .ins false C ns' ds'] = .ok x fin) : gEqA ((C, g) :: os) (.ins false C ns ds) (.ins false C ns' ds') = some x := by
  unfold gEqA ownL ownD
  simp [fzns, fzn, hf, hf', h]
end
/-! pairs -/
theorem eqv_pair (p q : Int × Int) : PyData.eqv (pP p) (pP q) = decide (p = q) := by
  unfold pP PyData.eqv
  rw [show PyData.eqvAll [.int p.1, .int p.2] [.int q.1, .int q.2] = decide ([p.1, p.2] = [q.1, q.2]) from eqv_ints [p.1, p.2] [q.1, q.2]]
  obtain ⟨a, b⟩ := p
  obtain ⟨c, d⟩ := q
  simp
theorem gIdx_pairs {o : Bool} {p : Int × Int} {ps : List (Int × Int)} {j : Nat} (h : ps.findIdx? (fun z => decide (z = p)) = some j) : gIdx (.lst o (mL pairD ps)) (.tup [.atm (.int p.1), .atm (.int p.2)]) = some (.atm (.int (j : Nat))) := by
  show gIdx (.lst o (ps.map pairD)) (pairD p) = _
  unfold gIdx
  have e : (ps.map pP).findIdx? (fun z => PyData.eqv z (pP p)) = some j := by
    rw [List.findIdx?_map, ← h]
    congr 1
    funext z
    exact eqv_pair z p
  simp only [toP_pair, toP, toPs_pairs, shaped_pair, shaped_pairs, Option.map_some, Bool.and_self, if_true, e]
theorem eqv_pairs : ∀ ps qs : List (Int × Int), PyData.eqvAll (ps.map pP) (qs.map pP) = decide (ps = qs)
  | [], [] => by unfold PyData.eqvAll; simp
  | [], m :: ms => by
    rw [List.map_cons]
    unfold PyData.eqvAll
    simp
  | n :: ns, [] => by
    rw [List.map_cons]
    unfold PyData.eqvAll
    simp
  | n :: ns, m :: ms => by
    rw [List.map_cons, List.map_cons]
    unfold PyData.eqvAll
    rw [eqv_pairs ns ms, eqv_pair]
    by_cases h : n = m <;> simp [h]
theorem gEq_pairs (o o' : Bool) (ps qs : List (Int × Int)) : gEq false (.lst o (mL pairD ps)) (.lst o' (mL pairD qs)) = some (.atm (.bl (decide (ps = qs)))) := by
  show gEq false (.lst o (ps.map pairD)) (.lst o' (qs.map pairD)) = _
  unfold gEq
  simp only [toP, toPs_pairs, shaped_pairs]
  have : PyData.eqv (.list (ps.map pP)) (.list (qs.map pP)) = decide (ps = qs) := by
    unfold PyData.eqv
    exact eqv_pairs ps qs
  simp [this]
theorem gEq_pair (p q : Int × Int) : gEq false (.tup [.atm (.int p.1), .atm (.int p.2)]) (.tup [.atm (.int q.1), .atm (.int q.2)]) = some (.atm (.bl (decide (p = q)))) := by
  show gEq false (pairD p) (pairD q) = _
  unfold gEq
  simp only [toP_pair, shaped_pair, eqv_pair]
  simp
/-! dicts by pairs -/
theorem keyD_pair (x y : Int) : keyD (.tup [.atm (.int x), .atm (.int y)]) = some [.inl x, .inl y] := (rfl)
end VS
set_option Elab.async false
set_option linter.all false
set_option maxRecDepth 100000
set_option maxHeartbeats 2000000
namespace VS
open PySem PySem.Spec PyProof.Rows L2 L2H
/-! range(a, b) -/
def kRh2 : Option (List D) → EnvD → M (List D)
  | some [.atm (.int a), .atm (.int b)], e => if decide (-(2 ^ 62) ≤ a) && decide (a < 2 ^ 62) && decide (-(2 ^ 62) ≤ b) && decide (b < 2 ^ 62) then .ok (rngD a (b - a).toNat) e else .no
  | _, _ => .no
def kRh : M (List R) → M (List D)
  | .ok rs e => kRh2 (peeks rs e) e
  | .er x e => .er x e
  | .no => .no
section
variable {as : Av} {e : EnvD} {rs : List R} {a b : Int}
@[simp] theorem fR2_e : fR2 as e = kRh (as e) := by
  unfold fR2 kRh
  cases as e with
  | no => rfl
  | er x e => rfl
  | ok rs e1 =>
    simp only [bind_ok]
    unfold kRh2
    rcases peeks rs e1 with _ | (_ | ⟨d, (_ | ⟨d2, (_ | ⟨d3, l⟩)⟩)⟩)
    · rfl
    · rfl
    · cases d with
      | atm v => cases v <;> rfl
      | _ => rfl
    · cases d with
      | atm v => cases v with
        | int a => cases d2 with
          | atm v2 => cases v2 <;> rfl
          | _ => rfl
        | _ => rfl
      | _ => rfl
    · cases d with
      | atm v => cases v with
        | int a => cases d2 with
          | atm v2 => cases v2 <;> rfl
          | _ => rfl
        | _ => rfl
      | _ => rfl
@[simp] theorem kRh_ok : kRh (.ok rs e) = kRh2 (peeks rs e) e := (rfl)
@[simp] theorem kRh2_b (ha : -100000 ≤ a ∧ a ≤ 100000) (hb : -100000 ≤ b ∧ b ≤ 100000) : kRh2 (some [.atm (.int a), .atm (.int b)]) e = .ok (rngD a (b - a).toNat) e := by
  have h1 : -(2 ^ 62) ≤ a := by omega
  have h2 : a < 2 ^ 62 := by omega
  have h3 : -(2 ^ 62) ≤ b := by omega
  have h4 : b < 2 ^ 62 := by omega
  show (if _ then _ else _) = _
  simp only [h1, h2, h3, h4, decide_true, Bool.and_self, if_true]
end
end VS
set_option Elab.async false
set_option linter.all false
set_option maxRecDepth 100000
set_option maxHeartbeats 0
namespace Lw
open PySem PySem.Spec PyProof.Rows L2 L2H VS
def knF : List (Str × Str) := [("NoDepot", "depot"), ("NoCustomer", "customer"), ("NoRoute", "route"), ("Repeated", "entry")]
def knX (K : PySem.W.Frag) (c : Addr) : Prop := ∃ p ∈ knF, c = He.ga K p.1
structure TX (Pg : Program) (K : PySem.W.Frag) (mg : Str → Option Value) : Prop where
  ex : ∃ h : Heap, K.In h ∧ h.Ns mainGlobals mg
  c : He.SaysD fa fn K
  pr_f_Network_depots : ∃ pp gg, PropOf K (He.ga K "Network") "depots" pp gg ∧ ∃ fd, FunD K "depots" "Network.depots" (defArgs ((clsBody (top 55)).getD 4 (.Pass ⟨0, 0, 0, 0⟩))) (defBody ((clsBody (top 55)).getD 4 (.Pass ⟨0, 0, 0, 0⟩))) (defScope ((clsBody (top 55)).getD 4 (.Pass ⟨0, 0, 0, 0⟩))) [] [] gg fd
  pr_f_Network_customers : ∃ pp gg, PropOf K (He.ga K "Network") "customers" pp gg ∧ ∃ fd, FunD K "customers" "Network.customers" (defArgs ((clsBody (top 55)).getD 5 (.Pass ⟨0, 0, 0, 0⟩))) (defBody ((clsBody (top 55)).getD 5 (.Pass ⟨0, 0, 0, 0⟩))) (defScope ((clsBody (top 55)).getD 5 (.Pass ⟨0, 0, 0, 0⟩))) [] [] gg fd
  pr_f_Network_routes : ∃ pp gg, PropOf K (He.ga K "Network") "routes" pp gg ∧ ∃ fd, FunD K "routes" "Network.routes" (defArgs ((clsBody (top 55)).getD 6 (.Pass ⟨0, 0, 0, 0⟩))) (defBody ((clsBody (top 55)).getD 6 (.Pass ⟨0, 0, 0, 0⟩))) (defScope ((clsBody (top 55)).getD 6 (.Pass ⟨0, 0, 0, 0⟩))) [] [] gg fd
  pr_f_Network_loops : ∃ pp gg, PropOf K (He.ga K "Network") "loops" pp gg ∧ ∃ fd, FunD K "loops" "Network.loops" (defArgs ((clsBody (top 55)).getD 7 (.Pass ⟨0, 0, 0, 0⟩))) (defBody ((clsBody (top 55)).getD 7 (.Pass ⟨0, 0, 0, 0⟩))) (defScope ((clsBody (top 55)).getD 7 (.Pass ⟨0, 0, 0, 0⟩))) [] [] gg fd
  pr_f_Network_joined : ∃ pp gg, PropOf K (He.ga K "Network") "joined" pp gg ∧ ∃ fd, FunD K "joined" "Network.joined" (defArgs ((clsBody (top 55)).getD 8 (.Pass ⟨0, 0, 0, 0⟩))) (defBody ((clsBody (top 55)).getD 8 (.Pass ⟨0, 0, 0, 0⟩))) (defScope ((clsBody (top 55)).getD 8 (.Pass ⟨0, 0, 0, 0⟩))) [] [] gg fd
  rz_BadSize : ∀ w, Rz Pg w K mg (He.ga K "BadSize") "size"
  rz_NoDepot : ∀ w, Rz Pg w K mg (He.ga K "NoDepot") "depot"
  rz_NoCustomer : ∀ w, Rz Pg w K mg (He.ga K "NoCustomer") "customer"
  rz_Repeated : ∀ w, Rz Pg w K mg (He.ga K "Repeated") "entry"
  rzT_NoRoute : ∀ w, RzT Pg w K mg (He.ga K "NoRoute") "route"
  con_MOST_PLACES : ∃ u, Con K (He.ga K "Network") "MOST_PLACES" (.int 8) u
  con_MOST_ROUTES : ∃ u, Con K (He.ga K "Network") "MOST_ROUTES" (.int 16) u
  xf_NoDepot : XfC K (He.ga K "NoDepot")
  xn_NoDepot : PySem.W.findIn K (.ref (He.ga K "NoDepot")) "depot" = some none
  xf_NoCustomer : XfC K (He.ga K "NoCustomer")
  xn_NoCustomer : PySem.W.findIn K (.ref (He.ga K "NoCustomer")) "customer" = some none
  xf_NoRoute : XfC K (He.ga K "NoRoute")
  xn_NoRoute : PySem.W.findIn K (.ref (He.ga K "NoRoute")) "route" = some none
  xf_Repeated : XfC K (He.ga K "Repeated")
  xn_Repeated : PySem.W.findIn K (.ref (He.ga K "Repeated")) "entry" = some none
  ins_Network : C8.InsC K (He.ga K "Network")
  xe_NoDepot : ExcC K (He.ga K "NoDepot")
  kit_NoDepot : ∀ y ∈ clsL, PySem.W.kitOne K (.ref (He.ga K "NoDepot")) (.ref (He.ga K y)) = some (decide (y = "NoDepot"))
  kiv_NoDepot : PySem.W.kitOne K (.ref (He.ga K "NoDepot")) (.type "ValueError") = some true
  exm_NoDepot : PySem.W.exmOne K (.ref (He.ga K "NoDepot")) (.ref (He.ga K "DepotError")) = some true
  xe_NoCustomer : ExcC K (He.ga K "NoCustomer")
  kit_NoCustomer : ∀ y ∈ clsL, PySem.W.kitOne K (.ref (He.ga K "NoCustomer")) (.ref (He.ga K y)) = some (decide (y = "NoCustomer"))
  kiv_NoCustomer : PySem.W.kitOne K (.ref (He.ga K "NoCustomer")) (.type "ValueError") = some true
  exm_NoCustomer : PySem.W.exmOne K (.ref (He.ga K "NoCustomer")) (.ref (He.ga K "DepotError")) = some true
  xe_NoRoute : ExcC K (He.ga K "NoRoute")
  kit_NoRoute : ∀ y ∈ clsL, PySem.W.kitOne K (.ref (He.ga K "NoRoute")) (.ref (He.ga K y)) = some (decide (y = "NoRoute"))
  kiv_NoRoute : PySem.W.kitOne K (.ref (He.ga K "NoRoute")) (.type "ValueError") = some true
  exm_NoRoute : PySem.W.exmOne K (.ref (He.ga K "NoRoute")) (.ref (He.ga K "DepotError")) = some true
  xe_Repeated : ExcC K (He.ga K "Repeated")
  kit_Repeated : ∀ y ∈ clsL, PySem.W.kitOne K (.ref (He.ga K "Repeated")) (.ref (He.ga K y)) = some (decide (y = "Repeated"))
  kiv_Repeated : PySem.W.kitOne K (.ref (He.ga K "Repeated")) (.type "ValueError") = some true
  exm_Repeated : PySem.W.exmOne K (.ref (He.ga K "Repeated")) (.ref (He.ga K "DepotError")) = some true
section
variable {Pg : Program} {K : PySem.W.Frag} {mg : Str → Option Value}
theorem TX.glo (T : TX Pg K mg) (i : Nat) {x : Str} (h : fa[i]? = some (.glo x) := by rfl) : mg x = some (.ref (He.ga K x)) := by
  obtain ⟨h0, X, G⟩ := T.ex
  exact He.glo_ok X G (T.c.fact i h)
theorem TX.free (T : TX Pg K mg) (i : Nat) {x : Str} (h : fa[i]? = some (.free x) := by rfl) : mg x = none := by
  obtain ⟨h0, X, G⟩ := T.ex
  exact He.free_ok X G (T.c.fact i h)
theorem TX.cls (T : TX Pg K mg) (i : Nat) {x : Str} (h : fa[i]? = some (.cls x) := by rfl) : Cls K (He.ga K x) := He.cls_ok (T.c.fact i h)
theorem TX.noat (T : TX Pg K mg) (i : Nat) {x f : Str} (h : fa[i]? = some (.noat x f) := by rfl) : NoAttr K (He.ga K x) f := He.noat_ok (T.c.fact i h)
theorem TX.meth (T : TX Pg K mg) (i : Nat) {x m : Str} (h : fa[i]? = some (.meth x m) := by rfl) : Meth K (He.ga K x) m (He.ma K (He.ga K x) m) := He.meth_ok (T.c.fact i h)
theorem TX.mkr (T : TX Pg K mg) (i : Nat) {x : Str} (h : fa[i]? = some (.mkr x) := by rfl) : Mk K (He.ga K x) (He.ma K (He.ga K x) "__init__") := He.mkr_ok (T.c.fact i h)
theorem TX.def_ (T : TX Pg K mg) (i : Nat) {at_ : Str × Option Str} {name qual : Str} {params : Arguments} {body : List Stmt} {scope : Scope} (h : fn[i]? = some ⟨at_, name, qual, params, body, scope, [], []⟩ := by rfl) : ∃ fd, FunD K name qual params body scope [] [] (He.fAd K at_) fd := T.c.def_ i h
theorem TX.knE (T : TX Pg K mg) {c : Addr} (h : knX K c) : ExcC K c := by
  obtain ⟨p, hm, rfl⟩ := h
  simp only [knF, List.mem_cons, List.not_mem_nil, or_false] at hm
  rcases hm with rfl | rfl | rfl | rfl
  · exact T.xe_NoDepot
  · exact T.xe_NoCustomer
  · exact T.xe_NoRoute
  · exact T.xe_Repeated
end
theorem bootB_ValueError : bootBuiltins "ValueError" = some (.type "ValueError") := by decide +kernel
variable {Pg : Program} {w : World} {K : PySem.W.Frag} {mg : Str → Option Value} {base : Heap}
abbrev s_f_Network_len : Stmt := (clsBody (top 55)).getD 16 (.Pass ⟨0, 0, 0, 0⟩)
abbrev N_f_Network_len : List Str := ["self"]
theorem sc_f_Network_len : FnScope N_f_Network_len ["self"] (defScope s_f_Network_len) := ⟨rfl, rfl, rfl, by decide +kernel, rfl, by decide +kernel, by decide +kernel⟩
def b_f_Network_len (K : PySem.W.Frag) : Sv := (sRt (eCB gLen (aCons (eU (gFld (He.ga K "Network") "_routes") (eVar 0)) aNil)))
def m_f_Network_len (K : PySem.W.Frag) : Fv := fnD [] 1 1 (b_f_Network_len K)
theorem ok_f_Network_len (T : TX Pg K mg) : FOk Pg w K mg base 1 ("Network", some "__len__") ["self"] 1 (m_f_Network_len K) :=
  fn_jF (p := ("Network", some "__len__")) (x := "__len__") (qual := "Network.__len__") (params := defArgs s_f_Network_len) (body := defBody s_f_Network_len) (scope := defScope s_f_Network_len) (T.def_ 0) sc_f_Network_len (fun _ _ _ _ _ _ us hl => match us, hl with | [_], _ => rfl) rfl rfl (by decide) rfl fun cdv A outer s H E hr tk po =>
    have hu := hu65 hr
    (bj_one (sj_rt (ej_cb b_len rfl (T.free 2) boot_len (aj_cons (ej_fld (T.cls 0) (T.noat 1) (xv 0)) aj_nil))))
abbrev s_f__law_cell_of : Stmt := top 57
abbrev N_f__law_cell_of : List Str := ["_law_script", "_law_k", "_law_mixed", "_law_cell"]
theorem sc_f__law_cell_of : FnScope N_f__law_cell_of ["_law_script", "_law_k"] (defScope s_f__law_cell_of) := ⟨rfl, rfl, rfl, by decide +kernel, rfl, by decide +kernel, by decide +kernel⟩
def l_f__law_cell_of_0 (K : PySem.W.Frag) : Sv := (sWp [3] (sAs (gN 2) (eFrz (eOp gMod (eCB gInt (aCons (eOp gAdd (eOp gAdd (eOp gMul (eVar 2) (eC (.int 48271))) (eOp gMul (eVar 3) (eC (.int 69621)))) (eC (.int 11))) aNil)) (eC (.int 2147483647))))))
def b_f__law_cell_of (K : PySem.W.Frag) : Sv := (sSeq (sIf (tBl (eOp gLt (eVar 1) (eCB gLen (aCons (eVar 0) aNil)))) (sRt (eOp gIx (eVar 0) (eVar 1))) sSkip) (sSeq (sAs (gN 2) (eFrz (eOp gMul (eC (.int 7919)) (eOp gAdd (eVar 1) (eC (.int 1)))))) (sSeq (sFor (fSeq (eCp 0)) (gN 3) (l_f__law_cell_of_0 K)) (sRt (eCp 2)))))
def m_f__law_cell_of (K : PySem.W.Frag) : Fv := fnD [] 2 4 (b_f__law_cell_of K)
theorem ok_f__law_cell_of (T : TX Pg K mg) : FOk Pg w K mg base 1 ("_law_cell_of", none) ["_law_script", "_law_k"] 2 (m_f__law_cell_of K) :=
  fn_jF (p := ("_law_cell_of", none)) (x := "_law_cell_of") (qual := "_law_cell_of") (params := defArgs s_f__law_cell_of) (body := defBody s_f__law_cell_of) (scope := defScope s_f__law_cell_of) (T.def_ 1) sc_f__law_cell_of (fun _ _ _ _ _ _ us hl => match us, hl with | [_, _], _ => rfl) rfl rfl (by decide) rfl fun cdv A outer s H E hr tk po =>
    have hu := hu65 hr
    (bj_cons (sj_if (tj_cm o_lt (xv 1) (ej_cb b_len rfl (T.free 2) boot_len (aj_cons (xv 0) aj_nil))) (bj_one (sj_rt (ej_ix (xv 0) (xv 1)))) bj_nil) (bj_cons (xset 2 (ej_frz (ej_mul ej_int (ej_add (xv 1) ej_int))) sc_f__law_cell_of.nd) (bj_cons (sj_for po rfl (ij_seq (xc 0)) (xg 3 sc_f__law_cell_of.nd) (bj_wp [3] (bj_one (xset 2 (ej_frz (ej_mod (ej_ct b_int rfl (T.free 3) boot_int (aj_cons (ej_add (ej_add (ej_mul (xv 2) ej_int) (ej_mul (xv 3) ej_int)) ej_int) aj_nil)) ej_int)) sc_f__law_cell_of.nd)))) (bj_one (sj_rt (xc 2))))))
abbrev s_f__law_source : Stmt := top 58
abbrev N_f__law_source : List Str := ["_law_script", "_law_k", "_law_cell", "_law_state", "_law_great", "_law_step"]
theorem sc_f__law_source : FnScope N_f__law_source ["_law_script", "_law_k"] (defScope s_f__law_source) := ⟨rfl, rfl, rfl, by decide +kernel, rfl, by decide +kernel, by decide +kernel⟩
def l_f__law_source_0 (K : PySem.W.Frag) : Sv := (sWp [5] (sSeq (sAs (gN 3) (eFrz (eOp gMod (eCB gInt (aCons (eOp gAdd (eOp gAdd (eOp gAdd (eOp gMul (eVar 3) (eVar 3)) (eOp gMul (eVar 3) (eC (.int 48271)))) (eOp gMul (eVar 5) (eC (.int 7919)))) (eC (.int 13))) aNil)) (eC (.int 2147483629))))) (sAs (gN 4) (eFrz (eOp gAdd (eOp gMul (eVar 4) (eC (.int 2147483629))) (eVar 3))))))
def b_f__law_source (K : PySem.W.Frag) : Sv := (sSeq (sAs (gN 2) (eFrz (eCall 2 (m_f__law_cell_of K) (aCons (eCp 0) (aCons (eCp 1) aNil))))) (sSeq (sIf (tBl (eOp gGe (eVar 2) (eOp gPow (eC (.int 10)) (eC (.int 18))))) (sRt (eDis (.lst true) (aCons (eCp 2) aNil))) sSkip) (sSeq (sAs (gN 3) (eFrz (eOp gMod (eCB gInt (aCons (eOp gAdd (eOp gAdd (eOp gMul (eVar 2) (eC (.int 48271))) (eOp gMul (eVar 1) (eC (.int 69621)))) (eC (.int 11))) aNil)) (eC (.int 2147483647))))) (sSeq (sAs (gN 4) (eFrz (eC (.int 0)))) (sSeq (sFor (fR1 (aCons (eC (.int 12)) aNil)) (gN 5) (l_f__law_source_0 K)) (sRt (eDis (.lst true) (aCons (eCp 4) aNil))))))))
def m_f__law_source (K : PySem.W.Frag) : Fv := fnD [] 2 6 (b_f__law_source K)
theorem ok_f__law_source (T : TX Pg K mg) : FOk Pg w K mg base 2 ("_law_source", none) ["_law_script", "_law_k"] 2 (m_f__law_source K) :=
  fn_jF (p := ("_law_source", none)) (x := "_law_source") (qual := "_law_source") (params := defArgs s_f__law_source) (body := defBody s_f__law_source) (scope := defScope s_f__law_source) (T.def_ 2) sc_f__law_source (fun _ _ _ _ _ _ us hl => match us, hl with | [_, _], _ => rfl) rfl rfl (by decide) rfl fun cdv A outer s H E hr tk po =>
    have hu := hu65 hr
    (bj_cons (xset 2 (ej_frz (ejF tk (ok_f__law_cell_of T) hr (T.glo 4) (aj_cons (xc 0) (aj_cons (xc 1) aj_nil)))) sc_f__law_source.nd) (bj_cons (sj_if (tj_cm o_ge (xv 2) (ej_pow ej_int ej_int)) (bj_one (sj_rt (ej_lst (aj_cons (xc 2) aj_nil)))) bj_nil) (bj_cons (xset 3 (ej_frz (ej_mod (ej_ct b_int rfl (T.free 3) boot_int (aj_cons (ej_add (ej_add (ej_mul (xv 2) ej_int) (ej_mul (xv 1) ej_int)) ej_int) aj_nil)) ej_int)) sc_f__law_source.nd) (bj_cons (xset 4 (ej_frz ej_int) sc_f__law_source.nd) (bj_cons (sj_for po rfl (ij_r1 rfl (T.free 5) (aj_cons ej_int aj_nil)) (xg 5 sc_f__law_source.nd) (bj_wp [5] (bj_cons (xset 3 (ej_frz (ej_mod (ej_ct b_int rfl (T.free 3) boot_int (aj_cons (ej_add (ej_add (ej_add (ej_mul (xv 3) (xv 3)) (ej_mul (xv 3) ej_int)) (ej_mul (xv 5) ej_int)) ej_int) aj_nil)) ej_int)) sc_f__law_source.nd) (bj_one (xset 4 (ej_frz (ej_add (ej_mul (xv 4) ej_int) (xv 3))) sc_f__law_source.nd))))) (bj_one (sj_rt (ej_lst (aj_cons (xc 4) aj_nil)))))))))
abbrev s_f__law_take : Stmt := top 59
abbrev N_f__law_take : List Str := ["_law_pool", "_law_many", "_law_digit"]
theorem sc_f__law_take : FnScope N_f__law_take ["_law_pool", "_law_many"] (defScope s_f__law_take) := ⟨rfl, rfl, rfl, by decide +kernel, rfl, by decide +kernel, by decide +kernel⟩
def b_f__law_take (K : PySem.W.Frag) : Sv := (sSeq (sAs (gN 2) (eFrz (eOp gMod (eCB gInt (aCons (eOp gIx (eVar 0) (eC (.int 0))) aNil)) (eVar 1)))) (sSeq (sSub 0 (eC (.int 0)) (eOp gDiv (eOp gIx (eVar 0) (eC (.int 0))) (eVar 1))) (sRt (eCp 2))))
def m_f__law_take (K : PySem.W.Frag) : Fv := fnD [0] 2 3 (b_f__law_take K)
theorem ok_f__law_take (T : TX Pg K mg) : FOk Pg w K mg base 1 ("_law_take", none) ["_law_pool", "_law_many"] 2 (m_f__law_take K) :=
  fn_jF (p := ("_law_take", none)) (x := "_law_take") (qual := "_law_take") (params := defArgs s_f__law_take) (body := defBody s_f__law_take) (scope := defScope s_f__law_take) (T.def_ 3) sc_f__law_take (fun _ _ _ _ _ _ us hl => match us, hl with | [_, _], _ => rfl) rfl rfl (by decide) rfl fun cdv A outer s H E hr tk po =>
    have hu := hu65 hr
    (bj_cons (xset 2 (ej_frz (ej_mod (ej_ct b_int rfl (T.free 3) boot_int (aj_cons (ej_ix (xv 0) ej_int) aj_nil)) (xv 1))) sc_f__law_take.nd) (bj_cons (xsub 0 ej_int (ej_div (ej_ix (xv 0) ej_int) (xv 1))) (bj_one (sj_rt (xc 2)))))
abbrev s_f__law_draw : Stmt := top 60
abbrev N_f__law_draw : List Str := ["_law_pool", "_law_sizes", "_law_left", "_law_k", "_law_pairs", "_law_step"]
theorem sc_f__law_draw : FnScope N_f__law_draw ["_law_pool"] (defScope s_f__law_draw) := ⟨rfl, rfl, rfl, by decide +kernel, rfl, by decide +kernel, by decide +kernel⟩
def l_f__law_draw_0 (K : PySem.W.Frag) : Sv := (sWp [3] (sEx (eMut 2 mApp (aCons (eDis .tup (aCons (eOp gDiv (eVar 3) (eOp gIx (eVar 1) (eC (.int 1)))) (aCons (eOp gMod (eCB gInt (aCons (eVar 3) aNil)) (eOp gIx (eVar 1) (eC (.int 1)))) aNil))) aNil))))
def l_f__law_draw_1 (K : PySem.W.Frag) : Sv := (sWp [5] (sEx (eMut 4 mApp (aCons (eFrz (eMut 2 mPopAt (aCons (eFrz (eCall 2 (m_f__law_take K) (aCons (eVar 0) (aCons (eFrz (eCB gLen (aCons (eVar 2) aNil))) aNil)))) aNil))) aNil))))
def b_f__law_draw (K : PySem.W.Frag) : Sv := (sSeq (sAs (gN 1) (eFrz (eDis .tup (aCons (eOp gAdd (eC (.int 1)) (eCall 2 (m_f__law_take K) (aCons (eVar 0) (aCons (eC (.int 8)) aNil)))) (aCons (eOp gAdd (eC (.int 1)) (eCall 2 (m_f__law_take K) (aCons (eVar 0) (aCons (eC (.int 8)) aNil)))) aNil))))) (sSeq (sAs (gN 2) (eDis (.lst true) aNil)) (sSeq (sFor (fR1 (aCons (eOp gMul (eOp gIx (eVar 1) (eC (.int 0))) (eOp gIx (eVar 1) (eC (.int 1)))) aNil)) (gN 3) (l_f__law_draw_0 K)) (sSeq (sAs (gN 4) (eDis (.lst true) aNil)) (sSeq (sFor (fR1 (aCons (eCall 2 (m_f__law_take K) (aCons (eVar 0) (aCons (eOp gAdd (eCB gMin (aCons (eC (.int 16)) (aCons (eCB gLen (aCons (eVar 2) aNil)) aNil))) (eC (.int 1))) aNil))) aNil)) (gN 5) (l_f__law_draw_1 K)) (sRt (eDis .tup (aCons (eCp 1) (aCons (eFz 4) aNil)))))))))
def m_f__law_draw (K : PySem.W.Frag) : Fv := fnD [0] 1 6 (b_f__law_draw K)
theorem ok_f__law_draw (T : TX Pg K mg) : FOk Pg w K mg base 2 ("_law_draw", none) ["_law_pool"] 1 (m_f__law_draw K) :=
  fn_jF (p := ("_law_draw", none)) (x := "_law_draw") (qual := "_law_draw") (params := defArgs s_f__law_draw) (body := defBody s_f__law_draw) (scope := defScope s_f__law_draw) (T.def_ 4) sc_f__law_draw (fun _ _ _ _ _ _ us hl => match us, hl with | [_], _ => rfl) rfl rfl (by decide) rfl fun cdv A outer s H E hr tk po =>
    have hu := hu65 hr
    (bj_cons (xset 1 (ej_frz (ej_tup (aj_cons (ej_add ej_int (ejF tk (ok_f__law_take T) hr (T.glo 6) (aj_cons (xv 0) (aj_cons ej_int aj_nil)))) (aj_cons (ej_add ej_int (ejF tk (ok_f__law_take T) hr (T.glo 6) (aj_cons (xv 0) (aj_cons ej_int aj_nil)))) aj_nil)))) sc_f__law_draw.nd) (bj_cons (xset 2 (ej_lst aj_nil) sc_f__law_draw.nd) (bj_cons (sj_for po rfl (ij_r1 rfl (T.free 5) (aj_cons (ej_mul (ej_ix (xv 1) ej_int) (ej_ix (xv 1) ej_int)) aj_nil)) (xg 3 sc_f__law_draw.nd) (bj_wp [3] (bj_one (sj_ex (xmut 2 PySem.F.slot_list_append PySem.F.type_list_append mt_append mut_app (aj_cons (ej_tup (aj_cons (ej_div (xv 3) (ej_ix (xv 1) ej_int)) (aj_cons (ej_mod (ej_ct b_int rfl (T.free 3) boot_int (aj_cons (xv 3) aj_nil)) (ej_ix (xv 1) ej_int)) aj_nil))) aj_nil)))))) (bj_cons (xset 4 (ej_lst aj_nil) sc_f__law_draw.nd) (bj_cons (sj_for po rfl (ij_r1 rfl (T.free 5) (aj_cons (ejF tk (ok_f__law_take T) hr (T.glo 6) (aj_cons (xv 0) (aj_cons (ej_add (ej_cb (b_min2 rfl) rfl (T.free 7) boot_min (aj_cons ej_int (aj_cons (ej_cb b_len rfl (T.free 2) boot_len (aj_cons (xv 2) aj_nil)) aj_nil))) ej_int) aj_nil))) aj_nil)) (xg 5 sc_f__law_draw.nd) (bj_wp [5] (bj_one (sj_ex (xmut 4 PySem.F.slot_list_append PySem.F.type_list_append mt_append mut_app (aj_cons (ej_frz (xmut 2 PySem.F.slot_list_pop PySem.F.type_list_pop mt_popAt mut_popAt (aj_cons (ej_frz (ejF tk (ok_f__law_take T) hr (T.glo 6) (aj_cons (xv 0) (aj_cons (ej_frz (ej_cb b_len rfl (T.free 2) boot_len (aj_cons (xv 2) aj_nil))) aj_nil)))) aj_nil))) aj_nil)))))) (bj_one (sj_rt (ej_tup (aj_cons (xc 1) (aj_cons (xf 4) aj_nil))))))))))
abbrev s_f_Network_eq : Stmt := (clsBody (top 55)).getD 18 (.Pass ⟨0, 0, 0, 0⟩)
abbrev N_f_Network_eq : List Str := ["self", "other"]
theorem sc_f_Network_eq : FnScope N_f_Network_eq ["self", "other"] (defScope s_f_Network_eq) := ⟨rfl, rfl, rfl, by decide +kernel, rfl, by decide +kernel, by decide +kernel⟩
def b_f_Network_eq (K : PySem.W.Frag) : Sv := (sRt (eAn (eU (gIsO (He.ga K "Network")) (eVar 1)) (eAn (eOp (gEq false) (eU (gFld (He.ga K "Network") "_depots") (eVar 0)) (eU (gFld (He.ga K "Network") "_depots") (eVar 1))) (eAn (eOp (gEq false) (eU (gFld (He.ga K "Network") "_customers") (eVar 0)) (eU (gFld (He.ga K "Network") "_customers") (eVar 1))) (eOp (gEq false) (eU (gFld (He.ga K "Network") "_routes") (eVar 0)) (eU (gFld (He.ga K "Network") "_routes") (eVar 1)))))))
def m_f_Network_eq (K : PySem.W.Frag) : Fv := fnD [] 2 2 (b_f_Network_eq K)
theorem ok_f_Network_eq (T : TX Pg K mg) : FOk Pg w K mg base 1 ("Network", some "__eq__") ["self", "other"] 2 (m_f_Network_eq K) :=
  fn_jF (p := ("Network", some "__eq__")) (x := "__eq__") (qual := "Network.__eq__") (params := defArgs s_f_Network_eq) (body := defBody s_f_Network_eq) (scope := defScope s_f_Network_eq) (T.def_ 5) sc_f_Network_eq (fun _ _ _ _ _ _ us hl => match us, hl with | [_, _], _ => rfl) rfl rfl (by decide) rfl fun cdv A outer s H E hr tk po =>
    have hu := hu65 hr
    (bj_one (sj_rt (ej_and (ej_isO T.ins_Network (T.free 8) (T.glo 9) (xv 1)) (ej_and (ej_cm (o_eq hu) (ej_fld (T.cls 0) (T.noat 10) (xv 0)) (ej_fld (T.cls 0) (T.noat 10) (xv 1))) (ej_and (ej_cm (o_eq hu) (ej_fld (T.cls 0) (T.noat 11) (xv 0)) (ej_fld (T.cls 0) (T.noat 11) (xv 1))) (ej_one (ej_cm (o_eq hu) (ej_fld (T.cls 0) (T.noat 1) (xv 0)) (ej_fld (T.cls 0) (T.noat 1) (xv 1)))))))))
abbrev s_f_Network_contains : Stmt := (clsBody (top 55)).getD 15 (.Pass ⟨0, 0, 0, 0⟩)
abbrev N_f_Network_contains : List Str := ["self", "route"]
theorem sc_f_Network_contains : FnScope N_f_Network_contains ["self", "route"] (defScope s_f_Network_contains) := ⟨rfl, rfl, rfl, by decide +kernel, rfl, by decide +kernel, by decide +kernel⟩
def b_f_Network_contains (K : PySem.W.Frag) : Sv := (sRt (eOp gDin (eCB gTuple (aCons (eVar 1) aNil)) (eU (gFld (He.ga K "Network") "_indexes") (eVar 0))))
def m_f_Network_contains (K : PySem.W.Frag) : Fv := fnD [] 2 2 (b_f_Network_contains K)
theorem ok_f_Network_contains (T : TX Pg K mg) : FOk Pg w K mg base 1 ("Network", some "__contains__") ["self", "route"] 2 (m_f_Network_contains K) :=
  fn_jF (p := ("Network", some "__contains__")) (x := "__contains__") (qual := "Network.__contains__") (params := defArgs s_f_Network_contains) (body := defBody s_f_Network_contains) (scope := defScope s_f_Network_contains) (T.def_ 6) sc_f_Network_contains (fun _ _ _ _ _ _ us hl => match us, hl with | [_, _], _ => rfl) rfl rfl (by decide) rfl fun cdv A outer s H E hr tk po =>
    have hu := hu65 hr
    (bj_one (sj_rt (ej_din hu (ej_ct b_tuple rfl (T.free 12) boot_tuple (aj_cons (xv 1) aj_nil)) (ej_fld (T.cls 0) (T.noat 13) (xv 0)))))
abbrev s_f__law_mirrored : Stmt := top 61
abbrev N_f__law_mirrored : List Str := ["_law_sizes", "_law_pairs", "_law_size", "_law_out", "_law_pair", "_law_fits"]
theorem sc_f__law_mirrored : FnScope N_f__law_mirrored ["_law_sizes", "_law_pairs"] (defScope s_f__law_mirrored) := ⟨rfl, rfl, rfl, by decide +kernel, rfl, by decide +kernel, by decide +kernel⟩
def l_f__law_mirrored_0 (K : PySem.W.Frag) : Sv := (sWp [4, 5] (sSeq (sAs (gN 5) (eFrz (eAn (eOp gLt (eCB gMax (aCons (eOp gIx (eVar 4) (eC (.int 0))) (aCons (eOp gIx (eVar 4) (eC (.int 1))) aNil))) (eVar 2)) (eOp (gIn true) (eVar 4) (eVar 3))))) (sIf (tAn (tBl (eCp 5)) (tBl (eOp gLt (eCB gLen (aCons (eVar 3) aNil)) (eC (.int 15))))) (sSeq (sEx (eMut 3 mApp (aCons (eCp 4) aNil))) (sIf (tBl (eOp (gEq true) (eOp gIx (eVar 4) (eC (.int 0))) (eOp gIx (eVar 4) (eC (.int 1))))) (sEx (eMut 3 mApp (aCons (eDis .tup (aCons (eOp gIx (eVar 4) (eC (.int 1))) (aCons (eOp gIx (eVar 4) (eC (.int 0))) aNil))) aNil))) sSkip)) sSkip)))
def b_f__law_mirrored (K : PySem.W.Frag) : Sv := (sSeq (sAs (gN 2) (eFrz (eCB gMin (aCons (eOp gIx (eVar 0) (eC (.int 0))) (aCons (eOp gIx (eVar 0) (eC (.int 1))) aNil))))) (sSeq (sAs (gN 3) (eDis (.lst true) aNil)) (sSeq (sFor (fSeq (eCp 1)) (gN 4) (l_f__law_mirrored_0 K)) (sRt (eDis .tup (aCons (eDis .tup (aCons (eCp 2) (aCons (eCp 2) aNil))) (aCons (eFz 3) aNil)))))))
def m_f__law_mirrored (K : PySem.W.Frag) : Fv := fnD [] 2 6 (b_f__law_mirrored K)
theorem ok_f__law_mirrored (T : TX Pg K mg) : FOk Pg w K mg base 1 ("_law_mirrored", none) ["_law_sizes", "_law_pairs"] 2 (m_f__law_mirrored K) :=
  fn_jF (p := ("_law_mirrored", none)) (x := "_law_mirrored") (qual := "_law_mirrored") (params := defArgs s_f__law_mirrored) (body := defBody s_f__law_mirrored) (scope := defScope s_f__law_mirrored) (T.def_ 7) sc_f__law_mirrored (fun _ _ _ _ _ _ us hl => match us, hl with | [_, _], _ => rfl) rfl rfl (by decide) rfl fun cdv A outer s H E hr tk po =>
    have hu := hu65 hr
    (bj_cons (xset 2 (ej_frz (ej_cb (b_min2 rfl) rfl (T.free 7) boot_min (aj_cons (ej_ix (xv 0) ej_int) (aj_cons (ej_ix (xv 0) ej_int) aj_nil)))) sc_f__law_mirrored.nd) (bj_cons (xset 3 (ej_lst aj_nil) sc_f__law_mirrored.nd) (bj_cons (sj_for po rfl (ij_seq (xc 1)) (xg 4 sc_f__law_mirrored.nd) (bj_wp [4, 5] (bj_cons (xset 5 (ej_frz (ej_and (ej_cm o_lt (ej_cb (b_max2 rfl) rfl (T.free 14) boot_max (aj_cons (ej_ix (xv 4) ej_int) (aj_cons (ej_ix (xv 4) ej_int) aj_nil))) (xv 2)) (ej_one (ej_cm (o_notin hu) (xv 4) (xv 3))))) sc_f__law_mirrored.nd) (bj_one (sj_if (tj_w (wj_and (tj_val (xc 5)) (wj_and1 (tj_cm o_lt (ej_cb b_len rfl (T.free 2) boot_len (aj_cons (xv 3) aj_nil)) ej_int)))) (bj_cons (sj_ex (xmut 3 PySem.F.slot_list_append PySem.F.type_list_append mt_append mut_app (aj_cons (xc 4) aj_nil))) (bj_one (sj_if (tj_cm (o_ne hu) (ej_ix (xv 4) ej_int) (ej_ix (xv 4) ej_int)) (bj_one (sj_ex (xmut 3 PySem.F.slot_list_append PySem.F.type_list_append mt_append mut_app (aj_cons (ej_tup (aj_cons (ej_ix (xv 4) ej_int) (aj_cons (ej_ix (xv 4) ej_int) aj_nil))) aj_nil)))) bj_nil))) bj_nil))))) (bj_one (sj_rt (ej_tup (aj_cons (ej_tup (aj_cons (xc 2) (aj_cons (xc 2) aj_nil))) (aj_cons (xf 3) aj_nil))))))))
abbrev s_f__law_draw_odd : Stmt := top 74
abbrev N_f__law_draw_odd : List Str := ["_law_pool", "_law_sizes", "_law_pairs", "_law_step", "_law_first", "_law_lists", "_law_lot", "_law_turns"]
theorem sc_f__law_draw_odd : FnScope N_f__law_draw_odd ["_law_pool", "_law_sizes"] (defScope s_f__law_draw_odd) := ⟨rfl, rfl, rfl, by decide +kernel, rfl, by decide +kernel, by decide +kernel⟩
def l_f__law_draw_odd_0 (K : PySem.W.Frag) : Sv := (sWp [3, 4] (sSeq (sAs (gN 4) (eFrz (eOp gSub (eCall 2 (m_f__law_take K) (aCons (eVar 0) (aCons (eOp gAdd (eOp gIx (eVar 1) (eC (.int 0))) (eC (.int 2))) aNil))) (eC (.int 1))))) (sEx (eMut 2 mApp (aCons (eDis .tup (aCons (eCp 4) (aCons (eOp gSub (eCall 2 (m_f__law_take K) (aCons (eVar 0) (aCons (eOp gAdd (eOp gIx (eVar 1) (eC (.int 1))) (eC (.int 2))) aNil))) (eC (.int 1))) aNil))) aNil)))))
def l_f__law_draw_odd_1 (K : PySem.W.Frag) : Sv := (sWp [7] (sEx (eMut 6 mApp (aCons (eOp gSub (eCall 2 (m_f__law_take K) (aCons (eVar 0) (aCons (eOp gAdd (eOp gIx (eVar 1) (eC (.int 0))) (eC (.int 2))) aNil))) (eC (.int 1))) aNil))))
def l_f__law_draw_odd_2 (K : PySem.W.Frag) : Sv := (sWp [3, 6, 7] (sSeq (sAs (gN 6) (eDis (.lst true) aNil)) (sSeq (sFor (fR1 (aCons (eCall 2 (m_f__law_take K) (aCons (eVar 0) (aCons (eC (.int 5)) aNil))) aNil)) (gN 7) (l_f__law_draw_odd_1 K)) (sEx (eMut 5 mApp (aCons (eFz 6) aNil))))))
def b_f__law_draw_odd (K : PySem.W.Frag) : Sv := (sSeq (sAs (gN 2) (eDis (.lst true) aNil)) (sSeq (sFor (fR1 (aCons (eC (.int 4)) aNil)) (gN 3) (l_f__law_draw_odd_0 K)) (sSeq (sAs (gN 5) (eDis (.lst true) aNil)) (sSeq (sFor (fR1 (aCons (eC (.int 2)) aNil)) (gN 3) (l_f__law_draw_odd_2 K)) (sRt (eDis .tup (aCons (eFz 2) (aCons (eFz 5) aNil))))))))
def m_f__law_draw_odd (K : PySem.W.Frag) : Fv := fnD [0] 2 8 (b_f__law_draw_odd K)
theorem ok_f__law_draw_odd (T : TX Pg K mg) : FOk Pg w K mg base 2 ("_law_draw_odd", none) ["_law_pool", "_law_sizes"] 2 (m_f__law_draw_odd K) :=
  fn_jF (p := ("_law_draw_odd", none)) (x := "_law_draw_odd") (qual := "_law_draw_odd") (params := defArgs s_f__law_draw_odd) (body := defBody s_f__law_draw_odd) (scope := defScope s_f__law_draw_odd) (T.def_ 8) sc_f__law_draw_odd (fun _ _ _ _ _ _ us hl => match us, hl with | [_, _], _ => rfl) rfl rfl (by decide) rfl fun cdv A outer s H E hr tk po =>
    have hu := hu65 hr
    (bj_cons (xset 2 (ej_lst aj_nil) sc_f__law_draw_odd.nd) (bj_cons (sj_for po rfl (ij_r1 rfl (T.free 5) (aj_cons ej_int aj_nil)) (xg 3 sc_f__law_draw_odd.nd) (bj_wp [3, 4] (bj_cons (xset 4 (ej_frz (ej_sub (ejF tk (ok_f__law_take T) hr (T.glo 6) (aj_cons (xv 0) (aj_cons (ej_add (ej_ix (xv 1) ej_int) ej_int) aj_nil))) ej_int)) sc_f__law_draw_odd.nd) (bj_one (sj_ex (xmut 2 PySem.F.slot_list_append PySem.F.type_list_append mt_append mut_app (aj_cons (ej_tup (aj_cons (xc 4) (aj_cons (ej_sub (ejF tk (ok_f__law_take T) hr (T.glo 6) (aj_cons (xv 0) (aj_cons (ej_add (ej_ix (xv 1) ej_int) ej_int) aj_nil))) ej_int) aj_nil))) aj_nil))))))) (bj_cons (xset 5 (ej_lst aj_nil) sc_f__law_draw_odd.nd) (bj_cons (sj_for po rfl (ij_r1 rfl (T.free 5) (aj_cons ej_int aj_nil)) (xg 3 sc_f__law_draw_odd.nd) (bj_wp [3, 6, 7] (bj_cons (xset 6 (ej_lst aj_nil) sc_f__law_draw_odd.nd) (bj_cons (sj_for po rfl (ij_r1 rfl (T.free 5) (aj_cons (ejF tk (ok_f__law_take T) hr (T.glo 6) (aj_cons (xv 0) (aj_cons ej_int aj_nil))) aj_nil)) (xg 7 sc_f__law_draw_odd.nd) (bj_wp [7] (bj_one (sj_ex (xmut 6 PySem.F.slot_list_append PySem.F.type_list_append mt_append mut_app (aj_cons (ej_sub (ejF tk (ok_f__law_take T) hr (T.glo 6) (aj_cons (xv 0) (aj_cons (ej_add (ej_ix (xv 1) ej_int) ej_int) aj_nil))) ej_int) aj_nil)))))) (bj_one (sj_ex (xmut 5 PySem.F.slot_list_append PySem.F.type_list_append mt_append mut_app (aj_cons (xf 6) aj_nil)))))))) (bj_one (sj_rt (ej_tup (aj_cons (xf 2) (aj_cons (xf 5) aj_nil)))))))))
abbrev s_f_check_size : Stmt := top 42
abbrev N_f_check_size : List Str := ["size", "least", "most"]
theorem sc_f_check_size : FnScope N_f_check_size ["size", "least", "most"] (defScope s_f_check_size) := ⟨rfl, rfl, rfl, by decide +kernel, rfl, by decide +kernel, by decide +kernel⟩
def b_f_check_size (K : PySem.W.Frag) : Sv := (sIf (tOrr (tBl (eOp gLt (eVar 0) (eVar 1))) (tBl (eOp gGt (eVar 0) (eVar 2)))) (sRaise (He.ga K "BadSize") "size" okI (aCons (eCp 0) aNil)) sSkip)
def m_f_check_size (K : PySem.W.Frag) : Fv := fnD [] 3 3 (b_f_check_size K)
theorem ok_f_check_size (T : TX Pg K mg) : FOk Pg w K mg base 4 ("check_size", none) ["size", "least", "most"] 3 (m_f_check_size K) :=
  fn_jF (p := ("check_size", none)) (x := "check_size") (qual := "check_size") (params := defArgs s_f_check_size) (body := defBody s_f_check_size) (scope := defScope s_f_check_size) (T.def_ 9) sc_f_check_size (fun _ _ _ _ _ _ us hl => match us, hl with | [_, _, _], _ => rfl) rfl rfl (by decide) rfl fun cdv A outer s H E hr tk po =>
    have hu := hu65 hr
    (bj_one (sj_if (tj_w (wj_or (tj_cm o_lt (xv 0) (xv 1)) (wj_or1 (tj_cm o_gt (xv 0) (xv 2))))) (bj_one (xraise tk (T.rz_BadSize _) hr (T.glo 17) (aj_cons (xc 0) aj_nil))) bj_nil))
abbrev s_f_fresh_labels : Stmt := top 48
abbrev N_f_fresh_labels : List Str := ["places"]
theorem sc_f_fresh_labels : FnScope N_f_fresh_labels ["places"] (defScope s_f_fresh_labels) := ⟨rfl, rfl, rfl, by decide +kernel, rfl, by decide +kernel, by decide +kernel⟩
def b_f_fresh_labels (K : PySem.W.Frag) : Sv := (sRt (eU gLr (eVar 0)))
def m_f_fresh_labels (K : PySem.W.Frag) : Fv := fnD [] 1 1 (b_f_fresh_labels K)
theorem ok_f_fresh_labels (T : TX Pg K mg) : FOk Pg w K mg base 1 ("fresh_labels", none) ["places"] 1 (m_f_fresh_labels K) :=
  fn_jF (p := ("fresh_labels", none)) (x := "fresh_labels") (qual := "fresh_labels") (params := defArgs s_f_fresh_labels) (body := defBody s_f_fresh_labels) (scope := defScope s_f_fresh_labels) (T.def_ 10) sc_f_fresh_labels (fun _ _ _ _ _ _ us hl => match us, hl with | [_], _ => rfl) rfl rfl (by decide) rfl fun cdv A outer s H E hr tk po =>
    have hu := hu65 hr
    (bj_one (sj_rt (ej_listRg rfl rfl (T.free 16) rfl (T.free 5) (xv 0))))
abbrev s_f_join_labels : Stmt := top 49
abbrev N_f_join_labels : List Str := ["labels", "first", "second", "least", "greatest", "place"]
theorem sc_f_join_labels : FnScope N_f_join_labels ["labels", "first", "second"] (defScope s_f_join_labels) := ⟨rfl, rfl, rfl, by decide +kernel, rfl, by decide +kernel, by decide +kernel⟩
def l_f_join_labels_0 (K : PySem.W.Frag) : Sv := (sWp [5] (sIf (tBl (eOp (gEq false) (eOp gIx (eVar 0) (eVar 5)) (eVar 4))) (sSub 0 (eVar 5) (eCp 3)) sSkip))
def b_f_join_labels (K : PySem.W.Frag) : Sv := (sSeq (sAs (gN 3) (eFrz (eCB gMin (aCons (eOp gIx (eVar 0) (eVar 1)) (aCons (eOp gIx (eVar 0) (eVar 2)) aNil))))) (sSeq (sAs (gN 4) (eFrz (eCB gMax (aCons (eOp gIx (eVar 0) (eVar 1)) (aCons (eOp gIx (eVar 0) (eVar 2)) aNil))))) (sSeq (sIf (tBl (eOp (gEq false) (eVar 3) (eVar 4))) (sRt (eC (.bl false))) sSkip) (sSeq (sFor (fR1 (aCons (eCB gLen (aCons (eVar 0) aNil)) aNil)) (gN 5) (l_f_join_labels_0 K)) (sRt (eC (.bl true)))))))
def m_f_join_labels (K : PySem.W.Frag) : Fv := fnD [0] 3 6 (b_f_join_labels K)
theorem ok_f_join_labels (T : TX Pg K mg) : FOk Pg w K mg base 1 ("join_labels", none) ["labels", "first", "second"] 3 (m_f_join_labels K) :=
  fn_jF (p := ("join_labels", none)) (x := "join_labels") (qual := "join_labels") (params := defArgs s_f_join_labels) (body := defBody s_f_join_labels) (scope := defScope s_f_join_labels) (T.def_ 11) sc_f_join_labels (fun _ _ _ _ _ _ us hl => match us, hl with | [_, _, _], _ => rfl) rfl rfl (by decide) rfl fun cdv A outer s H E hr tk po =>
    have hu := hu65 hr
    (bj_cons (xset 3 (ej_frz (ej_cb (b_min2 rfl) rfl (T.free 7) boot_min (aj_cons (ej_ix (xv 0) (xv 1)) (aj_cons (ej_ix (xv 0) (xv 2)) aj_nil)))) sc_f_join_labels.nd) (bj_cons (xset 4 (ej_frz (ej_cb (b_max2 rfl) rfl (T.free 14) boot_max (aj_cons (ej_ix (xv 0) (xv 1)) (aj_cons (ej_ix (xv 0) (xv 2)) aj_nil)))) sc_f_join_labels.nd) (bj_cons (sj_if (tj_cm (o_eq hu) (xv 3) (xv 4)) (bj_one (sj_rt ej_bl)) bj_nil) (bj_cons (sj_for po rfl (ij_r1 rfl (T.free 5) (aj_cons (ej_cb b_len rfl (T.free 2) boot_len (aj_cons (xv 0) aj_nil)) aj_nil)) (xg 5 sc_f_join_labels.nd) (bj_wp [5] (bj_one (sj_if (tj_cm (o_eq hu) (ej_ix (xv 0) (xv 5)) (xv 4)) (bj_one (xsub 0 (xv 5) (xc 3))) bj_nil)))) (bj_one (sj_rt ej_bl))))))
abbrev s_f_labels_of : Stmt := top 50
abbrev N_f_labels_of : List Str := ["depots", "customers", "routes", "labels", "depot", "customer"]
theorem sc_f_labels_of : FnScope N_f_labels_of ["depots", "customers", "routes"] (defScope s_f_labels_of) := ⟨rfl, rfl, rfl, by decide +kernel, rfl, by decide +kernel, by decide +kernel⟩
def l_f_labels_of_0 (K : PySem.W.Frag) : Sv := (sWp [4, 5] (sEx (eCall 3 (m_f_join_labels K) (aCons (eVar 3) (aCons (eCp 4) (aCons (eOp gAdd (eVar 0) (eVar 5)) aNil))))))
def b_f_labels_of (K : PySem.W.Frag) : Sv := (sSeq (sAs (gN 3) (eCall 1 (m_f_fresh_labels K) (aCons (eOp gAdd (eVar 0) (eVar 1)) aNil))) (sSeq (sFor (fSeq (eCp 2)) (gT 2 (gsCons (gN 4) (gsCons (gN 5) gsNil))) (l_f_labels_of_0 K)) (sRt (eMv 3))))
def m_f_labels_of (K : PySem.W.Frag) : Fv := fnD [] 3 6 (b_f_labels_of K)
theorem ok_f_labels_of (T : TX Pg K mg) : FOk Pg w K mg base 2 ("labels_of", none) ["depots", "customers", "routes"] 3 (m_f_labels_of K) :=
  fn_jF (p := ("labels_of", none)) (x := "labels_of") (qual := "labels_of") (params := defArgs s_f_labels_of) (body := defBody s_f_labels_of) (scope := defScope s_f_labels_of) (T.def_ 12) sc_f_labels_of (fun _ _ _ _ _ _ us hl => match us, hl with | [_, _, _], _ => rfl) rfl rfl (by decide) rfl fun cdv A outer s H E hr tk po =>
    have hu := hu65 hr
    (bj_cons (xset 3 (ejF tk (ok_f_fresh_labels T) hr (T.glo 18) (aj_cons (ej_add (xv 0) (xv 1)) aj_nil)) sc_f_labels_of.nd) (bj_cons (sj_for po rfl (ij_seq (xc 2)) (gj_tup rfl (gsj_cons (xg 4 sc_f_labels_of.nd) (gsj_cons (xg 5 sc_f_labels_of.nd) gsj_nil))) (bj_wp [4, 5] (bj_one (sj_ex (ejF tk (ok_f_join_labels T) hr (T.glo 19) (aj_cons (xv 3) (aj_cons (xc 4) (aj_cons (ej_add (xv 0) (xv 5)) aj_nil)))))))) (bj_one (sj_rt (xm 3)))))
abbrev s_f_Network_depots : Stmt := (clsBody (top 55)).getD 4 (.Pass ⟨0, 0, 0, 0⟩)
abbrev N_f_Network_depots : List Str := ["self"]
theorem sc_f_Network_depots : FnScope N_f_Network_depots ["self"] (defScope s_f_Network_depots) := ⟨rfl, rfl, rfl, by decide +kernel, rfl, by decide +kernel, by decide +kernel⟩
def b_f_Network_depots (K : PySem.W.Frag) : Sv := (sRt (eU (gFld (He.ga K "Network") "_depots") (eVar 0)))
def m_f_Network_depots (K : PySem.W.Frag) : Fv := fnD [0] 1 1 (b_f_Network_depots K)
theorem ok_f_Network_depots (T : TX Pg K mg) : FOkP Pg w K mg base 1 ("Network", "depots") ["self"] (m_f_Network_depots K) :=
  fn_jP (p := ("Network", "depots")) (x := "depots") (qual := "Network.depots") (params := defArgs s_f_Network_depots) (body := defBody s_f_Network_depots) (scope := defScope s_f_Network_depots) T.pr_f_Network_depots sc_f_Network_depots (fun _ _ _ _ _ _ us hl => match us, hl with | [_], _ => rfl) rfl rfl (by decide) fun f cdv A outer s H E hr tk po =>
    have hu := hu65 hr
    (bj_one (sj_rt (ej_fld (T.cls 0) (T.noat 10) (xv 0))))
abbrev s_f_check_depot : Stmt := top 43
abbrev N_f_check_depot : List Str := ["network", "depot"]
theorem sc_f_check_depot : FnScope N_f_check_depot ["network", "depot"] (defScope s_f_check_depot) := ⟨rfl, rfl, rfl, by decide +kernel, rfl, by decide +kernel, by decide +kernel⟩
def b_f_check_depot (K : PySem.W.Frag) : Sv := (sIf (tOrr (tBl (eOp gLt (eVar 1) (eC (.int 0)))) (tBl (eOp gGe (eVar 1) (eProp (He.ga K "Network") (m_f_Network_depots K) (eVar 0))))) (sRaise (He.ga K "NoDepot") "depot" okI (aCons (eCp 1) aNil)) sSkip)
def m_f_check_depot (K : PySem.W.Frag) : Fv := fnD [0] 2 2 (b_f_check_depot K)
theorem ok_f_check_depot (T : TX Pg K mg) : FOk Pg w K mg base 4 ("check_depot", none) ["network", "depot"] 2 (m_f_check_depot K) :=
  fn_jF (p := ("check_depot", none)) (x := "check_depot") (qual := "check_depot") (params := defArgs s_f_check_depot) (body := defBody s_f_check_depot) (scope := defScope s_f_check_depot) (T.def_ 13) sc_f_check_depot (fun _ _ _ _ _ _ us hl => match us, hl with | [_, _], _ => rfl) rfl rfl (by decide) rfl fun cdv A outer s H E hr tk po =>
    have hu := hu65 hr
    (bj_one (sj_if (tj_w (wj_or (tj_cm o_lt (xv 1) ej_int) (wj_or1 (tj_cm o_ge (xv 1) (ejPropP (T.cls 0) (ok_f_Network_depots T) hr (xv 0)))))) (bj_one (xraise tk (T.rz_NoDepot _) hr (T.glo 20) (aj_cons (xc 1) aj_nil))) bj_nil))
abbrev s_f_Network_customers : Stmt := (clsBody (top 55)).getD 5 (.Pass ⟨0, 0, 0, 0⟩)
abbrev N_f_Network_customers : List Str := ["self"]
theorem sc_f_Network_customers : FnScope N_f_Network_customers ["self"] (defScope s_f_Network_customers) := ⟨rfl, rfl, rfl, by decide +kernel, rfl, by decide +kernel, by decide +kernel⟩
def b_f_Network_customers (K : PySem.W.Frag) : Sv := (sRt (eU (gFld (He.ga K "Network") "_customers") (eVar 0)))
def m_f_Network_customers (K : PySem.W.Frag) : Fv := fnD [0] 1 1 (b_f_Network_customers K)
theorem ok_f_Network_customers (T : TX Pg K mg) : FOkP Pg w K mg base 1 ("Network", "customers") ["self"] (m_f_Network_customers K) :=
  fn_jP (p := ("Network", "customers")) (x := "customers") (qual := "Network.customers") (params := defArgs s_f_Network_customers) (body := defBody s_f_Network_customers) (scope := defScope s_f_Network_customers) T.pr_f_Network_customers sc_f_Network_customers (fun _ _ _ _ _ _ us hl => match us, hl with | [_], _ => rfl) rfl rfl (by decide) fun f cdv A outer s H E hr tk po =>
    have hu := hu65 hr
    (bj_one (sj_rt (ej_fld (T.cls 0) (T.noat 11) (xv 0))))
abbrev s_f_check_customer : Stmt := top 44
abbrev N_f_check_customer : List Str := ["network", "customer"]
theorem sc_f_check_customer : FnScope N_f_check_customer ["network", "customer"] (defScope s_f_check_customer) := ⟨rfl, rfl, rfl, by decide +kernel, rfl, by decide +kernel, by decide +kernel⟩
def b_f_check_customer (K : PySem.W.Frag) : Sv := (sIf (tOrr (tBl (eOp gLt (eVar 1) (eC (.int 0)))) (tBl (eOp gGe (eVar 1) (eProp (He.ga K "Network") (m_f_Network_customers K) (eVar 0))))) (sRaise (He.ga K "NoCustomer") "customer" okI (aCons (eCp 1) aNil)) sSkip)
def m_f_check_customer (K : PySem.W.Frag) : Fv := fnD [0] 2 2 (b_f_check_customer K)
theorem ok_f_check_customer (T : TX Pg K mg) : FOk Pg w K mg base 4 ("check_customer", none) ["network", "customer"] 2 (m_f_check_customer K) :=
  fn_jF (p := ("check_customer", none)) (x := "check_customer") (qual := "check_customer") (params := defArgs s_f_check_customer) (body := defBody s_f_check_customer) (scope := defScope s_f_check_customer) (T.def_ 14) sc_f_check_customer (fun _ _ _ _ _ _ us hl => match us, hl with | [_, _], _ => rfl) rfl rfl (by decide) rfl fun cdv A outer s H E hr tk po =>
    have hu := hu65 hr
    (bj_one (sj_if (tj_w (wj_or (tj_cm o_lt (xv 1) ej_int) (wj_or1 (tj_cm o_ge (xv 1) (ejPropP (T.cls 0) (ok_f_Network_customers T) hr (xv 0)))))) (bj_one (xraise tk (T.rz_NoCustomer _) hr (T.glo 21) (aj_cons (xc 1) aj_nil))) bj_nil))
abbrev s_f_Network_pieces : Stmt := (clsBody (top 55)).getD 12 (.Pass ⟨0, 0, 0, 0⟩)
abbrev N_f_Network_pieces : List Str := ["self", "found", "label", "places", "depots", "customers", "place", "mark"]
theorem sc_f_Network_pieces : FnScope N_f_Network_pieces ["self"] (defScope s_f_Network_pieces) := ⟨rfl, rfl, rfl, by decide +kernel, rfl, by decide +kernel, by decide +kernel⟩
def l_f_Network_pieces_0 (K : PySem.W.Frag) : Sv := (sWp [2, 3, 4, 5] (sWp [3, 4, 5] (sIf (tBl (eOp (gEq false) (eOp gIx (eU (gFld (He.ga K "Network") "_labels") (eVar 0)) (eVar 2)) (eVar 2))) (sSeq (sAs (gN 3) (eFrz (eLc (fEn (eU (gFld (He.ga K "Network") "_labels") (eVar 0))) (gT 2 (gsCons (gN 6) (gsCons (gN 7) gsNil))) (tBl (eOp (gEq false) (eVar 7) (eVar 2))) (eCp 6) [6, 7]))) (sSeq (sAs (gN 4) (eLc (fSeq (eCp 3)) (gN 6) (tBl (eOp gLt (eVar 6) (eU (gFld (He.ga K "Network") "_depots") (eVar 0)))) (eCp 6) [6])) (sSeq (sAs (gN 5) (eLc (fSeq (eCp 3)) (gN 6) (tBl (eOp gGe (eVar 6) (eU (gFld (He.ga K "Network") "_depots") (eVar 0)))) (eOp gSub (eVar 6) (eU (gFld (He.ga K "Network") "_depots") (eVar 0))) [6])) (sEx (eMut 1 mApp (aCons (eDis .tup (aCons (eMv 4) (aCons (eMv 5) aNil))) aNil)))))) sSkip)))
def b_f_Network_pieces (K : PySem.W.Frag) : Sv := (sSeq (sAs (gN 1) (eDis (.lst true) aNil)) (sSeq (sFor (fR1 (aCons (eOp gAdd (eU (gFld (He.ga K "Network") "_depots") (eVar 0)) (eU (gFld (He.ga K "Network") "_customers") (eVar 0))) aNil)) (gN 2) (l_f_Network_pieces_0 K)) (sRt (eMv 1))))
def m_f_Network_pieces (K : PySem.W.Frag) : Fv := fnD [0] 1 8 (b_f_Network_pieces K)
theorem ok_f_Network_pieces (T : TX Pg K mg) : FOk Pg w K mg base 1 ("Network", some "pieces") ["self"] 1 (m_f_Network_pieces K) :=
  fn_jF (p := ("Network", some "pieces")) (x := "pieces") (qual := "Network.pieces") (params := defArgs s_f_Network_pieces) (body := defBody s_f_Network_pieces) (scope := defScope s_f_Network_pieces) (T.def_ 15) sc_f_Network_pieces (fun _ _ _ _ _ _ us hl => match us, hl with | [_], _ => rfl) rfl rfl (by decide) rfl fun cdv A outer s H E hr tk po =>
    have hu := hu65 hr
    (bj_cons (xset 1 (ej_lst aj_nil) sc_f_Network_pieces.nd) (bj_cons (sj_for po rfl (ij_r1 rfl (T.free 5) (aj_cons (ej_add (ej_fld (T.cls 0) (T.noat 10) (xv 0)) (ej_fld (T.cls 0) (T.noat 11) (xv 0))) aj_nil)) (xg 2 sc_f_Network_pieces.nd) (bj_wp [2, 3, 4, 5] (bj_one (sj_wp [3, 4, 5] (sj_if (tj_cm (o_eq hu) (ej_ix (ej_fld (T.cls 0) (T.noat 22) (xv 0)) (xv 2)) (xv 2)) (bj_cons (sj_setLcF (i := 3) rfl rfl sc_f_Network_pieces.nd rfl rfl (sw_true rfl rfl rfl (by decide +kernel)) (ij_enum rfl (T.free 23) (ej_fld (T.cls 0) (T.noat 22) (xv 0))) (own := [("place", 6), ("mark", 7)]) (blkOk_by (N := N_f_Network_pieces) (sc := defScope s_f_Network_pieces) (by decide +kernel)) rfl (fun _ _ _ _ _ => (gj_tup rfl (gsj_cons (xg 6 sc_f_Network_pieces.nd) (gsj_cons (xg 7 sc_f_Network_pieces.nd) gsj_nil)))) (fun _ _ _ _ _ => (tsj_one (tj_cm (o_eq hu) (xv 7) (xv 2)))) (fun _ _ _ _ _ => (xc 6))) (bj_cons (sj_setLc (i := 4) rfl rfl sc_f_Network_pieces.nd rfl rfl (sw_true rfl rfl rfl (by decide +kernel)) (ij_seq (xc 3)) (own := [("place", 6)]) (blkOk_by (N := N_f_Network_pieces) (sc := defScope s_f_Network_pieces) (by decide +kernel)) rfl (fun _ _ _ _ _ => (xg 6 sc_f_Network_pieces.nd)) (fun _ _ _ _ _ => (tsj_one (tj_cm o_lt (xv 6) (ej_fld (T.cls 0) (T.noat 10) (xv 0))))) (fun _ _ _ _ _ => (xc 6))) (bj_cons (sj_setLc (i := 5) rfl rfl sc_f_Network_pieces.nd rfl rfl (sw_true rfl rfl rfl (by decide +kernel)) (ij_seq (xc 3)) (own := [("place", 6)]) (blkOk_by (N := N_f_Network_pieces) (sc := defScope s_f_Network_pieces) (by decide +kernel)) rfl (fun _ _ _ _ _ => (xg 6 sc_f_Network_pieces.nd)) (fun _ _ _ _ _ => (tsj_one (tj_cm o_ge (xv 6) (ej_fld (T.cls 0) (T.noat 10) (xv 0))))) (fun _ _ _ _ _ => (ej_sub (xv 6) (ej_fld (T.cls 0) (T.noat 10) (xv 0))))) (bj_one (sj_ex (xmut 1 PySem.F.slot_list_append PySem.F.type_list_append mt_append mut_app (aj_cons (ej_tup (aj_cons (xm 4) (aj_cons (xm 5) aj_nil))) aj_nil))))))) bj_nil))))) (bj_one (sj_rt (xm 1)))))
abbrev s_f_Network_init : Stmt := (clsBody (top 55)).getD 2 (.Pass ⟨0, 0, 0, 0⟩)
abbrev N_f_Network_init : List Str := ["self", "depots", "customers", "routes", "found", "depot", "customer", "route", "index"]
theorem sc_f_Network_init : FnScope N_f_Network_init ["self", "depots", "customers", "routes"] (defScope s_f_Network_init) := ⟨rfl, rfl, rfl, by decide +kernel, rfl, by decide +kernel, by decide +kernel⟩
def l_f_Network_init_0 (K : PySem.W.Frag) : Sv := (sWp [5, 6] (sSeq (sEx (eCall 2 (m_f_check_depot K) (aCons (eVar 0) (aCons (eCp 5) aNil)))) (sSeq (sEx (eCall 2 (m_f_check_customer K) (aCons (eVar 0) (aCons (eCp 6) aNil)))) (sSeq (sIf (tBl (eOp (gIn false) (eDis .tup (aCons (eCp 5) (aCons (eCp 6) aNil))) (eVar 4))) sNo sSkip) (sEx (eMut 4 mApp (aCons (eDis .tup (aCons (eCp 5) (aCons (eCp 6) aNil))) aNil)))))))
def b_f_Network_init (K : PySem.W.Frag) : Sv := (sSeq (sEx (eCall 3 (m_f_check_size K) (aCons (eCp 1) (aCons (eC (.int 1)) (aCons (eU (gCon (He.ga K "Network") "MOST_PLACES" (.int 8)) (eVar 0)) aNil))))) (sSeq (sEx (eCall 3 (m_f_check_size K) (aCons (eCp 2) (aCons (eC (.int 1)) (aCons (eU (gCon (He.ga K "Network") "MOST_PLACES" (.int 8)) (eVar 0)) aNil))))) (sSeq (sFw 0 (He.ga K "Network") "_depots" (eCp 1)) (sSeq (sFw 0 (He.ga K "Network") "_customers" (eCp 2)) (sSeq (sAs (gN 4) (eDis (.lst true) aNil)) (sSeq (sFor (fSeq (eCp 3)) (gT 2 (gsCons (gN 5) (gsCons (gN 6) gsNil))) (l_f_Network_init_0 K)) (sSeq (sIf (tBl (eOp gGt (eCB gLen (aCons (eVar 4) aNil)) (eU (gCon (He.ga K "Network") "MOST_ROUTES" (.int 16)) (eVar 0)))) sNo sSkip) (sSeq (sFw 0 (He.ga K "Network") "_routes" (eCB gSorted (aCons (eVar 4) aNil))) (sSeq (sFw 0 (He.ga K "Network") "_indexes" (eDc (fEn (eU (gFld (He.ga K "Network") "_routes") (eVar 0))) (gT 2 (gsCons (gN 8) (gsCons (gN 7) gsNil))) (eCp 7) (eCp 8) [8, 7])) (sSeq (sFw 0 (He.ga K "Network") "_labels" (eCall 3 (m_f_labels_of K) (aCons (eCp 1) (aCons (eCp 2) (aCons (eU (gFld (He.ga K "Network") "_routes") (eVar 0)) aNil))))) (sSeq (sFw 0 (He.ga K "Network") "_joined" (eOp (gEq false) (eCB gMaxL (aCons (eU (gFld (He.ga K "Network") "_labels") (eVar 0)) aNil)) (eC (.int 0)))) (sFw 0 (He.ga K "Network") "_loops" (eOp gAdd (eOp gSub (eOp gSub (eCB gLen (aCons (eVar 4) aNil)) (eVar 1)) (eVar 2)) (eCB gLen (aCons (eMeth (He.ga K "Network") "pieces" 1 (m_f_Network_pieces K) (eVar 0) aNil) aNil)))))))))))))))
def m_f_Network_init (K : PySem.W.Frag) : Fv := fnD [0] 4 9 (b_f_Network_init K)
theorem ok_f_Network_init (T : TX Pg K mg) : FOk Pg w K mg base 5 ("Network", some "__init__") ["self", "depots", "customers", "routes"] 4 (m_f_Network_init K) :=
  fn_jF (p := ("Network", some "__init__")) (x := "__init__") (qual := "Network.__init__") (params := defArgs s_f_Network_init) (body := defBody s_f_Network_init) (scope := defScope s_f_Network_init) (T.def_ 16) sc_f_Network_init (fun _ _ _ _ _ _ us hl => match us, hl with | [_, _, _, _], _ => rfl) rfl rfl (by decide) rfl fun cdv A outer s H E hr tk po =>
    have hu := hu65 hr
    (bj_cons (sj_ex (ejF tk (ok_f_check_size T) hr (T.glo 24) (aj_cons (xc 1) (aj_cons ej_int (aj_cons (ej_conF (T.cls 0) T.con_MOST_PLACES nr_int (xv 0)) aj_nil))))) (bj_cons (sj_ex (ejF tk (ok_f_check_size T) hr (T.glo 24) (aj_cons (xc 2) (aj_cons ej_int (aj_cons (ej_conF (T.cls 0) T.con_MOST_PLACES nr_int (xv 0)) aj_nil))))) (bj_cons (xfw 0 (T.cls 0) (T.noat 10) (xc 1)) (bj_cons (xfw 0 (T.cls 0) (T.noat 11) (xc 2)) (bj_cons (xset 4 (ej_lst aj_nil) sc_f_Network_init.nd) (bj_cons (sj_for po rfl (ij_seq (xc 3)) (gj_tup rfl (gsj_cons (xg 5 sc_f_Network_init.nd) (gsj_cons (xg 6 sc_f_Network_init.nd) gsj_nil))) (bj_wp [5, 6] (bj_cons (sj_ex (ejF tk (ok_f_check_depot T) hr (T.glo 25) (aj_cons (xv 0) (aj_cons (xc 5) aj_nil)))) (bj_cons (sj_ex (ejF tk (ok_f_check_customer T) hr (T.glo 26) (aj_cons (xv 0) (aj_cons (xc 6) aj_nil)))) (bj_cons (sj_if (tj_cm (o_in hu) (ej_tup (aj_cons (xc 5) (aj_cons (xc 6) aj_nil))) (xv 4)) (bj_one sj_never) bj_nil) (bj_one (sj_ex (xmut 4 PySem.F.slot_list_append PySem.F.type_list_append mt_append mut_app (aj_cons (ej_tup (aj_cons (xc 5) (aj_cons (xc 6) aj_nil))) aj_nil))))))))) (bj_cons (sj_if (tj_cm o_gt (ej_cb b_len rfl (T.free 2) boot_len (aj_cons (xv 4) aj_nil)) (ej_conF (T.cls 0) T.con_MOST_ROUTES nr_int (xv 0))) (bj_one sj_never) bj_nil) (bj_cons (xfw 0 (T.cls 0) (T.noat 1) (ej_cb b_sorted rfl (T.free 27) boot_sorted (aj_cons (xv 4) aj_nil))) (bj_cons (xfw 0 (T.cls 0) (T.noat 13) (ej_dc hu rfl sc_f_Network_init.nd (ij_enum rfl (T.free 23) (ej_fld (T.cls 0) (T.noat 1) (xv 0))) (own := [("index", 8), ("route", 7)]) (blkOk_by (N := N_f_Network_init) (sc := defScope s_f_Network_init) (by decide +kernel)) rfl (fun _ _ _ _ _ => (gj_tup rfl (gsj_cons (xg 8 sc_f_Network_init.nd) (gsj_cons (xg 7 sc_f_Network_init.nd) gsj_nil)))) (fun _ _ _ _ _ => (xc 7)) (fun _ _ _ _ _ => (xc 8)))) (bj_cons (xfw 0 (T.cls 0) (T.noat 22) (ejF tk (ok_f_labels_of T) hr (T.glo 28) (aj_cons (xc 1) (aj_cons (xc 2) (aj_cons (ej_fld (T.cls 0) (T.noat 1) (xv 0)) aj_nil))))) (bj_cons (xfw 0 (T.cls 0) (T.noat 29) (ej_cm (o_eq hu) (ej_cb (b_maxL rfl) rfl (T.free 14) boot_max (aj_cons (ej_fld (T.cls 0) (T.noat 22) (xv 0)) aj_nil)) ej_int)) (bj_one (xfw 0 (T.cls 0) (T.noat 30) (ej_add (ej_sub (ej_sub (ej_cb b_len rfl (T.free 2) boot_len (aj_cons (xv 4) aj_nil)) (xv 1)) (xv 2)) (ej_cb b_len rfl (T.free 2) boot_len (aj_cons (ejMeth0 tk (T.cls 0) (T.meth 31) (ok_f_Network_pieces T) hr (xv 0)) aj_nil))))))))))))))))
abbrev s_f_Network_turned : Stmt := (clsBody (top 55)).getD 14 (.Pass ⟨0, 0, 0, 0⟩)
abbrev N_f_Network_turned : List Str := ["self", "customer", "depot"]
theorem sc_f_Network_turned : FnScope N_f_Network_turned ["self"] (defScope s_f_Network_turned) := ⟨rfl, rfl, rfl, by decide +kernel, rfl, by decide +kernel, by decide +kernel⟩
def b_f_Network_turned (K : PySem.W.Frag) : Sv := (sRt (eMake (He.ga K "Network") 4 (m_f_Network_init K) (aCons (eU (gFld (He.ga K "Network") "_customers") (eVar 0)) (aCons (eU (gFld (He.ga K "Network") "_depots") (eVar 0)) (aCons (eFrz (eLc (fSeq (eU (gFld (He.ga K "Network") "_routes") (eVar 0))) (gT 2 (gsCons (gN 2) (gsCons (gN 1) gsNil))) tT (eDis .tup (aCons (eCp 1) (aCons (eCp 2) aNil))) [2, 1])) aNil)))))
def m_f_Network_turned (K : PySem.W.Frag) : Fv := fnD [] 1 3 (b_f_Network_turned K)
theorem ok_f_Network_turned (T : TX Pg K mg) : FOk Pg w K mg base 7 ("Network", some "turned") ["self"] 1 (m_f_Network_turned K) :=
  fn_jF (p := ("Network", some "turned")) (x := "turned") (qual := "Network.turned") (params := defArgs s_f_Network_turned) (body := defBody s_f_Network_turned) (scope := defScope s_f_Network_turned) (T.def_ 17) sc_f_Network_turned (fun _ _ _ _ _ _ us hl => match us, hl with | [_], _ => rfl) rfl rfl (by decide) rfl fun cdv A outer s H E hr tk po =>
    have hu := hu65 hr
    (bj_one (sj_rt (ejMake tk (T.mkr 32) (ok_f_Network_init T) hr (T.glo 9) (aj_cons (ej_fld (T.cls 0) (T.noat 11) (xv 0)) (aj_cons (ej_fld (T.cls 0) (T.noat 10) (xv 0)) (aj_cons (ej_frz (ej_lc rfl sc_f_Network_turned.nd (ij_seq (ej_fld (T.cls 0) (T.noat 1) (xv 0))) (own := [("depot", 2), ("customer", 1)]) (blkOk_by (N := N_f_Network_turned) (sc := defScope s_f_Network_turned) (by decide +kernel)) rfl (fun _ _ _ _ _ => (gj_tup rfl (gsj_cons (xg 2 sc_f_Network_turned.nd) (gsj_cons (xg 1 sc_f_Network_turned.nd) gsj_nil)))) (fun _ _ _ _ _ => tsj_nil) (fun _ _ _ _ _ => (ej_tup (aj_cons (xc 1) (aj_cons (xc 2) aj_nil)))))) aj_nil))))))
abbrev s_f_Network_routes : Stmt := (clsBody (top 55)).getD 6 (.Pass ⟨0, 0, 0, 0⟩)
abbrev N_f_Network_routes : List Str := ["self"]
theorem sc_f_Network_routes : FnScope N_f_Network_routes ["self"] (defScope s_f_Network_routes) := ⟨rfl, rfl, rfl, by decide +kernel, rfl, by decide +kernel, by decide +kernel⟩
def b_f_Network_routes (K : PySem.W.Frag) : Sv := (sRt (eCB gList (aCons (eU (gFld (He.ga K "Network") "_routes") (eVar 0)) aNil)))
def m_f_Network_routes (K : PySem.W.Frag) : Fv := fnD [0] 1 1 (b_f_Network_routes K)
theorem ok_f_Network_routes (T : TX Pg K mg) : FOkP Pg w K mg base 1 ("Network", "routes") ["self"] (m_f_Network_routes K) :=
  fn_jP (p := ("Network", "routes")) (x := "routes") (qual := "Network.routes") (params := defArgs s_f_Network_routes) (body := defBody s_f_Network_routes) (scope := defScope s_f_Network_routes) T.pr_f_Network_routes sc_f_Network_routes (fun _ _ _ _ _ _ us hl => match us, hl with | [_], _ => rfl) rfl rfl (by decide) fun f cdv A outer s H E hr tk po =>
    have hu := hu65 hr
    (bj_one (sj_rt (ej_ct b_list rfl (T.free 16) boot_list (aj_cons (ej_fld (T.cls 0) (T.noat 1) (xv 0)) aj_nil))))
abbrev s_f_Network_loops : Stmt := (clsBody (top 55)).getD 7 (.Pass ⟨0, 0, 0, 0⟩)
abbrev N_f_Network_loops : List Str := ["self"]
theorem sc_f_Network_loops : FnScope N_f_Network_loops ["self"] (defScope s_f_Network_loops) := ⟨rfl, rfl, rfl, by decide +kernel, rfl, by decide +kernel, by decide +kernel⟩
def b_f_Network_loops (K : PySem.W.Frag) : Sv := (sRt (eU (gFld (He.ga K "Network") "_loops") (eVar 0)))
def m_f_Network_loops (K : PySem.W.Frag) : Fv := fnD [0] 1 1 (b_f_Network_loops K)
theorem ok_f_Network_loops (T : TX Pg K mg) : FOkP Pg w K mg base 1 ("Network", "loops") ["self"] (m_f_Network_loops K) :=
  fn_jP (p := ("Network", "loops")) (x := "loops") (qual := "Network.loops") (params := defArgs s_f_Network_loops) (body := defBody s_f_Network_loops) (scope := defScope s_f_Network_loops) T.pr_f_Network_loops sc_f_Network_loops (fun _ _ _ _ _ _ us hl => match us, hl with | [_], _ => rfl) rfl rfl (by decide) fun f cdv A outer s H E hr tk po =>
    have hu := hu65 hr
    (bj_one (sj_rt (ej_fld (T.cls 0) (T.noat 30) (xv 0))))
abbrev s_f_Network_joined : Stmt := (clsBody (top 55)).getD 8 (.Pass ⟨0, 0, 0, 0⟩)
abbrev N_f_Network_joined : List Str := ["self"]
theorem sc_f_Network_joined : FnScope N_f_Network_joined ["self"] (defScope s_f_Network_joined) := ⟨rfl, rfl, rfl, by decide +kernel, rfl, by decide +kernel, by decide +kernel⟩
def b_f_Network_joined (K : PySem.W.Frag) : Sv := (sRt (eU (gFld (He.ga K "Network") "_joined") (eVar 0)))
def m_f_Network_joined (K : PySem.W.Frag) : Fv := fnD [0] 1 1 (b_f_Network_joined K)
theorem ok_f_Network_joined (T : TX Pg K mg) : FOkP Pg w K mg base 1 ("Network", "joined") ["self"] (m_f_Network_joined K) :=
  fn_jP (p := ("Network", "joined")) (x := "joined") (qual := "Network.joined") (params := defArgs s_f_Network_joined) (body := defBody s_f_Network_joined) (scope := defScope s_f_Network_joined) T.pr_f_Network_joined sc_f_Network_joined (fun _ _ _ _ _ _ us hl => match us, hl with | [_], _ => rfl) rfl rfl (by decide) fun f cdv A outer s H E hr tk po =>
    have hu := hu65 hr
    (bj_one (sj_rt (ej_fld (T.cls 0) (T.noat 29) (xv 0))))
abbrev s_f_Network_str : Stmt := (clsBody (top 55)).getD 19 (.Pass ⟨0, 0, 0, 0⟩)
abbrev N_f_Network_str : List Str := ["self", "routes", "depot", "customer"]
theorem sc_f_Network_str : FnScope N_f_Network_str ["self"] (defScope s_f_Network_str) := ⟨rfl, rfl, rfl, by decide +kernel, rfl, by decide +kernel, by decide +kernel⟩
def b_f_Network_str (K : PySem.W.Frag) : Sv := (sSeq (sAs (gN 1) (eFrz (eU (gJoin "") (eLc (fSeq (eU (gFld (He.ga K "Network") "_routes") (eVar 0))) (gT 2 (gsCons (gN 2) (gsCons (gN 3) gsNil))) tT (eJs (jCons (eC (.str " ")) (jCons (eVar 2) (jCons (eC (.str "-")) (jCons (eVar 3) jNil))))) [2, 3])))) (sRt (eJs (jCons (eU (gFld (He.ga K "Network") "_depots") (eVar 0)) (jCons (eC (.str " x ")) (jCons (eU (gFld (He.ga K "Network") "_customers") (eVar 0)) (jCons (eC (.str ":")) (jCons (eVar 1) jNil))))))))
def m_f_Network_str (K : PySem.W.Frag) : Fv := fnD [] 1 4 (b_f_Network_str K)
theorem ok_f_Network_str (T : TX Pg K mg) : FOk Pg w K mg base 1 ("Network", some "__str__") ["self"] 1 (m_f_Network_str K) :=
  fn_jF (p := ("Network", some "__str__")) (x := "__str__") (qual := "Network.__str__") (params := defArgs s_f_Network_str) (body := defBody s_f_Network_str) (scope := defScope s_f_Network_str) (T.def_ 18) sc_f_Network_str (fun _ _ _ _ _ _ us hl => match us, hl with | [_], _ => rfl) rfl rfl (by decide) rfl fun cdv A outer s H E hr tk po =>
    have hu := hu65 hr
    (bj_cons (xset 1 (ej_frz (ej_join (ej_lc rfl sc_f_Network_str.nd (ij_seq (ej_fld (T.cls 0) (T.noat 1) (xv 0))) (own := [("depot", 2), ("customer", 3)]) (blkOk_by (N := N_f_Network_str) (sc := defScope s_f_Network_str) (by decide +kernel)) rfl (fun _ _ _ _ _ => (gj_tup rfl (gsj_cons (xg 2 sc_f_Network_str.nd) (gsj_cons (xg 3 sc_f_Network_str.nd) gsj_nil)))) (fun _ _ _ _ _ => tsj_nil) (fun _ _ _ _ _ => (ej_fstr (jj_str (jj_fmt (xv 2) (jj_str (jj_fmt (xv 3) jj_nil))))))))) sc_f_Network_str.nd) (bj_one (sj_rt (ej_fstr (jj_fmt (ej_fld (T.cls 0) (T.noat 10) (xv 0)) (jj_str (jj_fmt (ej_fld (T.cls 0) (T.noat 11) (xv 0)) (jj_str (jj_fmt (xv 1) jj_nil)))))))))
abbrev s_f_check_route : Stmt := top 45
abbrev N_f_check_route : List Str := ["network", "route", "depot", "customer"]
theorem sc_f_check_route : FnScope N_f_check_route ["network", "route"] (defScope s_f_check_route) := ⟨rfl, rfl, rfl, by decide +kernel, rfl, by decide +kernel, by decide +kernel⟩
def b_f_check_route (K : PySem.W.Frag) : Sv := (sSeq (sAs (gT 2 (gsCons (gN 2) (gsCons (gN 3) gsNil))) (eCp 1)) (sSeq (sEx (eCall 2 (m_f_check_depot K) (aCons (eCp 0) (aCons (eCp 2) aNil)))) (sSeq (sEx (eCall 2 (m_f_check_customer K) (aCons (eCp 0) (aCons (eCp 3) aNil)))) (sSeq (sIf (tBl (eOp (gNinA [(He.ga K "Network", m_f_Network_contains K)]) (eDis .tup (aCons (eCp 2) (aCons (eCp 3) aNil))) (eVar 0))) (sRaise (He.ga K "NoRoute") "route" okT (aCons (eDis .tup (aCons (eCp 2) (aCons (eCp 3) aNil))) aNil)) sSkip) (sRt (eDis .tup (aCons (eCp 2) (aCons (eCp 3) aNil))))))))
def m_f_check_route (K : PySem.W.Frag) : Fv := fnD [] 2 4 (b_f_check_route K)
theorem ok_f_check_route (T : TX Pg K mg) : FOk Pg w K mg base 5 ("check_route", none) ["network", "route"] 2 (m_f_check_route K) :=
  fn_jF (p := ("check_route", none)) (x := "check_route") (qual := "check_route") (params := defArgs s_f_check_route) (body := defBody s_f_check_route) (scope := defScope s_f_check_route) (T.def_ 19) sc_f_check_route (fun _ _ _ _ _ _ us hl => match us, hl with | [_, _], _ => rfl) rfl rfl (by decide) rfl fun cdv A outer s H E hr tk po =>
    have hu := hu65 hr
    (bj_cons (sj_as (gj_tup rfl (gsj_cons (xg 2 sc_f_check_route.nd) (gsj_cons (xg 3 sc_f_check_route.nd) gsj_nil))) (xc 1)) (bj_cons (sj_ex (ejF tk (ok_f_check_depot T) hr (T.glo 25) (aj_cons (xc 0) (aj_cons (xc 2) aj_nil)))) (bj_cons (sj_ex (ejF tk (ok_f_check_customer T) hr (T.glo 26) (aj_cons (xc 0) (aj_cons (xc 3) aj_nil)))) (bj_cons (sj_if (tj_cm (o_ninA (kk := 1) (.cons (T.meth 33) (ok_f_Network_contains T) (by decide) .nil) (hr.mono (by decide)) hu) (ej_tup (aj_cons (xc 2) (aj_cons (xc 3) aj_nil))) (xv 0)) (bj_one (xraiseT tk (T.rzT_NoRoute _) hr (T.glo 34) (aj_cons (ej_tup (aj_cons (xc 2) (aj_cons (xc 3) aj_nil))) aj_nil))) bj_nil) (bj_one (sj_rt (ej_tup (aj_cons (xc 2) (aj_cons (xc 3) aj_nil)))))))))
abbrev s_f_Network_index_of : Stmt := (clsBody (top 55)).getD 13 (.Pass ⟨0, 0, 0, 0⟩)
abbrev N_f_Network_index_of : List Str := ["self", "route"]
theorem sc_f_Network_index_of : FnScope N_f_Network_index_of ["self", "route"] (defScope s_f_Network_index_of) := ⟨rfl, rfl, rfl, by decide +kernel, rfl, by decide +kernel, by decide +kernel⟩
def b_f_Network_index_of (K : PySem.W.Frag) : Sv := (sRt (eOp gDg (eU (gFld (He.ga K "Network") "_indexes") (eVar 0)) (eCall 2 (m_f_check_route K) (aCons (eCp 0) (aCons (eCp 1) aNil)))))
def m_f_Network_index_of (K : PySem.W.Frag) : Fv := fnD [] 2 2 (b_f_Network_index_of K)
theorem ok_f_Network_index_of (T : TX Pg K mg) : FOk Pg w K mg base 6 ("Network", some "index_of") ["self", "route"] 2 (m_f_Network_index_of K) :=
  fn_jF (p := ("Network", some "index_of")) (x := "index_of") (qual := "Network.index_of") (params := defArgs s_f_Network_index_of) (body := defBody s_f_Network_index_of) (scope := defScope s_f_Network_index_of) (T.def_ 20) sc_f_Network_index_of (fun _ _ _ _ _ _ us hl => match us, hl with | [_, _], _ => rfl) rfl rfl (by decide) rfl fun cdv A outer s H E hr tk po =>
    have hu := hu65 hr
    (bj_one (sj_rt (ej_dget hu (ej_fld (T.cls 0) (T.noat 13) (xv 0)) (ejF tk (ok_f_check_route T) hr (T.glo 35) (aj_cons (xc 0) (aj_cons (xc 1) aj_nil))))))
abbrev s_f__law_classes : Stmt := top 63
abbrev N_f__law_classes : List Str := ["_law_e", "_law_rows"]
theorem sc_f__law_classes : FnScope N_f__law_classes ["_law_e"] (defScope s_f__law_classes) := ⟨rfl, rfl, rfl, by decide +kernel, rfl, by decide +kernel, by decide +kernel⟩
def b_f__law_classes (K : PySem.W.Frag) (a da c : Addr) : Sv := (sSeq (sAs (gN 1) (eFrz (eDis (.lst true) (aCons (eU (gIsE K a da c (.ref (He.ga K "BadColumn"))) (eVar 0)) (aCons (eU (gIsE K a da c (.ref (He.ga K "BadCount"))) (eVar 0)) aNil))))) (sSeq (sAs (gN 1) (eFrz (eOp gAdd (eVar 1) (eDis (.lst true) (aCons (eU (gIsE K a da c (.ref (He.ga K "BadDeed"))) (eVar 0)) (aCons (eU (gIsE K a da c (.ref (He.ga K "BadLength"))) (eVar 0)) aNil)))))) (sSeq (sAs (gN 1) (eFrz (eOp gAdd (eVar 1) (eDis (.lst true) (aCons (eU (gIsE K a da c (.ref (He.ga K "BadLine"))) (eVar 0)) (aCons (eU (gIsE K a da c (.ref (He.ga K "BadSize"))) (eVar 0)) aNil)))))) (sSeq (sAs (gN 1) (eFrz (eOp gAdd (eVar 1) (eDis (.lst true) (aCons (eU (gIsE K a da c (.ref (He.ga K "Below"))) (eVar 0)) (aCons (eU (gIsE K a da c (.ref (He.ga K "Closes"))) (eVar 0)) aNil)))))) (sSeq (sAs (gN 1) (eFrz (eOp gAdd (eVar 1) (eDis (.lst true) (aCons (eU (gIsE K a da c (.ref (He.ga K "DeedRefused"))) (eVar 0)) (aCons (eU (gIsE K a da c (.ref (He.ga K "NoCustomer"))) (eVar 0)) aNil)))))) (sSeq (sAs (gN 1) (eFrz (eOp gAdd (eVar 1) (eDis (.lst true) (aCons (eU (gIsE K a da c (.ref (He.ga K "NoCycle"))) (eVar 0)) (aCons (eU (gIsE K a da c (.ref (He.ga K "NoDemand"))) (eVar 0)) aNil)))))) (sSeq (sAs (gN 1) (eFrz (eOp gAdd (eVar 1) (eDis (.lst true) (aCons (eU (gIsE K a da c (.ref (He.ga K "NoDepot"))) (eVar 0)) (aCons (eU (gIsE K a da c (.ref (He.ga K "NoLink"))) (eVar 0)) aNil)))))) (sSeq (sAs (gN 1) (eFrz (eOp gAdd (eVar 1) (eDis (.lst true) (aCons (eU (gIsE K a da c (.ref (He.ga K "NoNumber"))) (eVar 0)) (aCons (eU (gIsE K a da c (.ref (He.ga K "NoPlace"))) (eVar 0)) aNil)))))) (sSeq (sAs (gN 1) (eFrz (eOp gAdd (eVar 1) (eDis (.lst true) (aCons (eU (gIsE K a da c (.ref (He.ga K "NoRoute"))) (eVar 0)) (aCons (eU (gIsE K a da c (.ref (He.ga K "NoSupply"))) (eVar 0)) aNil)))))) (sSeq (sAs (gN 1) (eFrz (eOp gAdd (eVar 1) (eDis (.lst true) (aCons (eU (gIsE K a da c (.ref (He.ga K "NotAcross"))) (eVar 0)) (aCons (eU (gIsE K a da c (.ref (He.ga K "NotFlexible"))) (eVar 0)) aNil)))))) (sSeq (sAs (gN 1) (eFrz (eOp gAdd (eVar 1) (eDis (.lst true) (aCons (eU (gIsE K a da c (.ref (He.ga K "NotInTree"))) (eVar 0)) (aCons (eU (gIsE K a da c (.ref (He.ga K "NotInner"))) (eVar 0)) aNil)))))) (sSeq (sAs (gN 1) (eFrz (eOp gAdd (eVar 1) (eDis (.lst true) (aCons (eU (gIsE K a da c (.ref (He.ga K "NotJoined"))) (eVar 0)) (aCons (eU (gIsE K a da c (.ref (He.ga K "NotMore"))) (eVar 0)) aNil)))))) (sSeq (sAs (gN 1) (eFrz (eOp gAdd (eVar 1) (eDis (.lst true) (aCons (eU (gIsE K a da c (.ref (He.ga K "NotPriced"))) (eVar 0)) (aCons (eU (gIsE K a da c (.ref (He.ga K "NotSpanning"))) (eVar 0)) aNil)))))) (sSeq (sAs (gN 1) (eFrz (eOp gAdd (eVar 1) (eDis (.lst true) (aCons (eU (gIsE K a da c (.ref (He.ga K "NotSpanningSet"))) (eVar 0)) (aCons (eU (gIsE K a da c (.ref (He.ga K "NothingLeft"))) (eVar 0)) aNil)))))) (sSeq (sAs (gN 1) (eFrz (eOp gAdd (eVar 1) (eDis (.lst true) (aCons (eU (gIsE K a da c (.ref (He.ga K "OtherNetwork"))) (eVar 0)) (aCons (eU (gIsE K a da c (.ref (He.ga K "OtherTotals"))) (eVar 0)) aNil)))))) (sSeq (sAs (gN 1) (eFrz (eOp gAdd (eVar 1) (eDis (.lst true) (aCons (eU (gIsE K a da c (.ref (He.ga K "Overflow"))) (eVar 0)) (aCons (eU (gIsE K a da c (.ref (He.ga K "Repeated"))) (eVar 0)) aNil)))))) (sSeq (sAs (gN 1) (eFrz (eOp gAdd (eVar 1) (eDis (.lst true) (aCons (eU (gIsE K a da c (.ref (He.ga K "SameEnds"))) (eVar 0)) (aCons (eU (gIsE K a da c (.ref (He.ga K "Short"))) (eVar 0)) aNil)))))) (sSeq (sAs (gN 1) (eFrz (eOp gAdd (eVar 1) (eDis (.lst true) (aCons (eU (gIsE K a da c (.ref (He.ga K "Stranded"))) (eVar 0)) (aCons (eU (gIsE K a da c (.ref (He.ga K "TooMany"))) (eVar 0)) aNil)))))) (sSeq (sAs (gN 1) (eFrz (eOp gAdd (eVar 1) (eDis (.lst true) (aCons (eU (gIsE K a da c (.ref (He.ga K "Unbalanced"))) (eVar 0)) (aCons (eU (gIsE K a da c (.ref (He.ga K "Unfair"))) (eVar 0)) aNil)))))) (sSeq (sAs (gN 1) (eFrz (eOp gAdd (eVar 1) (eDis (.lst true) (aCons (eU (gIsE K a da c (.ref (He.ga K "Unread"))) (eVar 0)) aNil))))) (sRt (eU gCntT (eVar 1)))))))))))))))))))))))
def m_f__law_classes (K : PySem.W.Frag) (a da c : Addr) : Fv := fnD [] 1 2 (fun e => noEr (b_f__law_classes K a da c e))
theorem ok_f__law_classes (T : TX Pg K mg) {a da c : Addr} (hE : ExcC K c) : FHk Pg w K mg base a da c 1 ("_law_classes", none) ["_law_e"] 1 (m_f__law_classes K a da c) :=
  fn_jX (at_ := ("_law_classes", none)) (x := "_law_classes") (qual := "_law_classes") (params := defArgs s_f__law_classes) (body := defBody s_f__law_classes) (scope := defScope s_f__law_classes) (T.def_ 21) sc_f__law_classes (fun _ _ _ _ _ _ us hl => match us, hl with | [_], _ => rfl) rfl rfl (by decide) fun oe cdv A outer s H E hr hx =>
    have hu := hu65H hr
    (bj_cons (xset 1 (ej_frz (ej_lst (aj_cons (xisE hx hE (T.free 8) (T.glo 36) (xv 0)) (aj_cons (xisE hx hE (T.free 8) (T.glo 37) (xv 0)) aj_nil)))) sc_f__law_classes.nd) (bj_cons (xset 1 (ej_frz (ej_add (xv 1) (ej_lst (aj_cons (xisE hx hE (T.free 8) (T.glo 38) (xv 0)) (aj_cons (xisE hx hE (T.free 8) (T.glo 39) (xv 0)) aj_nil))))) sc_f__law_classes.nd) (bj_cons (xset 1 (ej_frz (ej_add (xv 1) (ej_lst (aj_cons (xisE hx hE (T.free 8) (T.glo 40) (xv 0)) (aj_cons (xisE hx hE (T.free 8) (T.glo 17) (xv 0)) aj_nil))))) sc_f__law_classes.nd) (bj_cons (xset 1 (ej_frz (ej_add (xv 1) (ej_lst (aj_cons (xisE hx hE (T.free 8) (T.glo 41) (xv 0)) (aj_cons (xisE hx hE (T.free 8) (T.glo 42) (xv 0)) aj_nil))))) sc_f__law_classes.nd) (bj_cons (xset 1 (ej_frz (ej_add (xv 1) (ej_lst (aj_cons (xisE hx hE (T.free 8) (T.glo 43) (xv 0)) (aj_cons (xisE hx hE (T.free 8) (T.glo 21) (xv 0)) aj_nil))))) sc_f__law_classes.nd) (bj_cons (xset 1 (ej_frz (ej_add (xv 1) (ej_lst (aj_cons (xisE hx hE (T.free 8) (T.glo 44) (xv 0)) (aj_cons (xisE hx hE (T.free 8) (T.glo 45) (xv 0)) aj_nil))))) sc_f__law_classes.nd) (bj_cons (xset 1 (ej_frz (ej_add (xv 1) (ej_lst (aj_cons (xisE hx hE (T.free 8) (T.glo 20) (xv 0)) (aj_cons (xisE hx hE (T.free 8) (T.glo 46) (xv 0)) aj_nil))))) sc_f__law_classes.nd) (bj_cons (xset 1 (ej_frz (ej_add (xv 1) (ej_lst (aj_cons (xisE hx hE (T.free 8) (T.glo 47) (xv 0)) (aj_cons (xisE hx hE (T.free 8) (T.glo 48) (xv 0)) aj_nil))))) sc_f__law_classes.nd) (bj_cons (xset 1 (ej_frz (ej_add (xv 1) (ej_lst (aj_cons (xisE hx hE (T.free 8) (T.glo 34) (xv 0)) (aj_cons (xisE hx hE (T.free 8) (T.glo 49) (xv 0)) aj_nil))))) sc_f__law_classes.nd) (bj_cons (xset 1 (ej_frz (ej_add (xv 1) (ej_lst (aj_cons (xisE hx hE (T.free 8) (T.glo 50) (xv 0)) (aj_cons (xisE hx hE (T.free 8) (T.glo 51) (xv 0)) aj_nil))))) sc_f__law_classes.nd) (bj_cons (xset 1 (ej_frz (ej_add (xv 1) (ej_lst (aj_cons (xisE hx hE (T.free 8) (T.glo 52) (xv 0)) (aj_cons (xisE hx hE (T.free 8) (T.glo 53) (xv 0)) aj_nil))))) sc_f__law_classes.nd) (bj_cons (xset 1 (ej_frz (ej_add (xv 1) (ej_lst (aj_cons (xisE hx hE (T.free 8) (T.glo 54) (xv 0)) (aj_cons (xisE hx hE (T.free 8) (T.glo 55) (xv 0)) aj_nil))))) sc_f__law_classes.nd) (bj_cons (xset 1 (ej_frz (ej_add (xv 1) (ej_lst (aj_cons (xisE hx hE (T.free 8) (T.glo 56) (xv 0)) (aj_cons (xisE hx hE (T.free 8) (T.glo 57) (xv 0)) aj_nil))))) sc_f__law_classes.nd) (bj_cons (xset 1 (ej_frz (ej_add (xv 1) (ej_lst (aj_cons (xisE hx hE (T.free 8) (T.glo 58) (xv 0)) (aj_cons (xisE hx hE (T.free 8) (T.glo 59) (xv 0)) aj_nil))))) sc_f__law_classes.nd) (bj_cons (xset 1 (ej_frz (ej_add (xv 1) (ej_lst (aj_cons (xisE hx hE (T.free 8) (T.glo 60) (xv 0)) (aj_cons (xisE hx hE (T.free 8) (T.glo 61) (xv 0)) aj_nil))))) sc_f__law_classes.nd) (bj_cons (xset 1 (ej_frz (ej_add (xv 1) (ej_lst (aj_cons (xisE hx hE (T.free 8) (T.glo 62) (xv 0)) (aj_cons (xisE hx hE (T.free 8) (T.glo 63) (xv 0)) aj_nil))))) sc_f__law_classes.nd) (bj_cons (xset 1 (ej_frz (ej_add (xv 1) (ej_lst (aj_cons (xisE hx hE (T.free 8) (T.glo 64) (xv 0)) (aj_cons (xisE hx hE (T.free 8) (T.glo 65) (xv 0)) aj_nil))))) sc_f__law_classes.nd) (bj_cons (xset 1 (ej_frz (ej_add (xv 1) (ej_lst (aj_cons (xisE hx hE (T.free 8) (T.glo 66) (xv 0)) (aj_cons (xisE hx hE (T.free 8) (T.glo 67) (xv 0)) aj_nil))))) sc_f__law_classes.nd) (bj_cons (xset 1 (ej_frz (ej_add (xv 1) (ej_lst (aj_cons (xisE hx hE (T.free 8) (T.glo 68) (xv 0)) (aj_cons (xisE hx hE (T.free 8) (T.glo 69) (xv 0)) aj_nil))))) sc_f__law_classes.nd) (bj_cons (xset 1 (ej_frz (ej_add (xv 1) (ej_lst (aj_cons (xisE hx hE (T.free 8) (T.glo 70) (xv 0)) aj_nil)))) sc_f__law_classes.nd) (bj_one (sj_rt (ej_cntT (xv 1))))))))))))))))))))))))
abbrev s_f__law_refusal : Stmt := top 64
abbrev N_f__law_refusal : List Str := ["_law_e"]
theorem sc_f__law_refusal : FnScope N_f__law_refusal ["_law_e"] (defScope s_f__law_refusal) := ⟨rfl, rfl, rfl, by decide +kernel, rfl, by decide +kernel, by decide +kernel⟩
def b_f__law_refusal (K : PySem.W.Frag) (a da c : Addr) : Sv := (sSeq (sIf (tOrr (tNt (tBl (eU (gIsE K a da c (.type "ValueError")) (eVar 0)))) (tBl (eOp (gEq true) (eCall 1 (m_f__law_classes K a da c) (aCons (eCp 0) aNil)) (eC (.int 1))))) (sRt (eDis .tup (aCons (eC (.str "refused")) (aCons (eC (.str "otherwise")) (aCons (eC (.int 0)) aNil))))) sSkip) (sSeq (sIf (tBl (eU (gIsE K a da c (.ref (He.ga K "NoDepot"))) (eVar 0))) (sRt (eDis .tup (aCons (eC (.str "refused")) (aCons (eC (.str "NoDepot")) (aCons (eU (gXf a da c (He.ga K "NoDepot") "depot") (eVar 0)) aNil))))) sSkip) (sSeq (sIf (tBl (eU (gIsE K a da c (.ref (He.ga K "NoCustomer"))) (eVar 0))) (sRt (eDis .tup (aCons (eC (.str "refused")) (aCons (eC (.str "NoCustomer")) (aCons (eU (gXf a da c (He.ga K "NoCustomer") "customer") (eVar 0)) aNil))))) sSkip) (sSeq (sIf (tBl (eU (gIsE K a da c (.ref (He.ga K "NoRoute"))) (eVar 0))) (sRt (eDis .tup (aCons (eC (.str "refused")) (aCons (eC (.str "NoRoute")) (aCons (eU (gXf a da c (He.ga K "NoRoute") "route") (eVar 0)) aNil))))) sSkip) (sSeq (sIf (tBl (eU (gIsE K a da c (.ref (He.ga K "Repeated"))) (eVar 0))) (sRt (eDis .tup (aCons (eC (.str "refused")) (aCons (eC (.str "Repeated")) (aCons (eU (gXf a da c (He.ga K "Repeated") "entry") (eVar 0)) aNil))))) sSkip) (sRt (eDis .tup (aCons (eC (.str "refused")) (aCons (eC (.str "otherwise")) (aCons (eC (.int 0)) aNil))))))))))
def m_f__law_refusal (K : PySem.W.Frag) (a da c : Addr) : Fv := fnD [] 1 1 (fun e => noEr (b_f__law_refusal K a da c e))
theorem ok_f__law_refusal (T : TX Pg K mg) {a da c : Addr} (hE : ExcC K c) : FHk Pg w K mg base a da c 2 ("_law_refusal", none) ["_law_e"] 1 (m_f__law_refusal K a da c) :=
  fn_jX (at_ := ("_law_refusal", none)) (x := "_law_refusal") (qual := "_law_refusal") (params := defArgs s_f__law_refusal) (body := defBody s_f__law_refusal) (scope := defScope s_f__law_refusal) (T.def_ 22) sc_f__law_refusal (fun _ _ _ _ _ _ us hl => match us, hl with | [_], _ => rfl) rfl rfl (by decide) fun oe cdv A outer s H E hr hx =>
    have hu := hu65H hr
    (bj_cons (sj_if (tj_w (wj_or (tj_not (tj_val (xisB hx hE (T.free 8) (T.free 71) bootB_ValueError (xv 0)))) (wj_or1 (tj_cm (o_ne hu) (ejFX takes0 (ok_f__law_classes T hE) hx hr (T.glo 72) (aj_cons (xc 0) aj_nil)) ej_int)))) (bj_one (sj_rt (ej_tup (aj_cons ej_str (aj_cons ej_str (aj_cons ej_int aj_nil)))))) bj_nil) (bj_cons (sj_if (tj_val (xisE hx hE (T.free 8) (T.glo 20) (xv 0))) (bj_one (sj_rt (ej_tup (aj_cons ej_str (aj_cons ej_str (aj_cons (ejXf hx "depot" T.xf_NoDepot T.xn_NoDepot (xv 0)) aj_nil)))))) bj_nil) (bj_cons (sj_if (tj_val (xisE hx hE (T.free 8) (T.glo 21) (xv 0))) (bj_one (sj_rt (ej_tup (aj_cons ej_str (aj_cons ej_str (aj_cons (ejXf hx "customer" T.xf_NoCustomer T.xn_NoCustomer (xv 0)) aj_nil)))))) bj_nil) (bj_cons (sj_if (tj_val (xisE hx hE (T.free 8) (T.glo 34) (xv 0))) (bj_one (sj_rt (ej_tup (aj_cons ej_str (aj_cons ej_str (aj_cons (ejXf hx "route" T.xf_NoRoute T.xn_NoRoute (xv 0)) aj_nil)))))) bj_nil) (bj_cons (sj_if (tj_val (xisE hx hE (T.free 8) (T.glo 63) (xv 0))) (bj_one (sj_rt (ej_tup (aj_cons ej_str (aj_cons ej_str (aj_cons (ejXf hx "entry" T.xf_Repeated T.xn_Repeated (xv 0)) aj_nil)))))) bj_nil) (bj_one (sj_rt (ej_tup (aj_cons ej_str (aj_cons ej_str (aj_cons ej_int aj_nil)))))))))))
theorem classes_NoDepot (T : TX Pg K mg) {a da : Addr} {ns : List Str} {ds : List D} (hf : fzns ds = true) : m_f__law_classes K a da (He.ga K "NoDepot") [.exo a da (He.ga K "NoDepot") ns ds] = .ok (intD 1) [.jnk] := by
  have q0 : gIsE K a da (He.ga K "NoDepot") (.ref (He.ga K "BadColumn")) (.exo a da (He.ga K "NoDepot") ns ds) = some (.atm (.bl false)) := gIsE_k (T.kit_NoDepot "BadColumn" (by decide +kernel))
  have q1 : gIsE K a da (He.ga K "NoDepot") (.ref (He.ga K "BadCount")) (.exo a da (He.ga K "NoDepot") ns ds) = some (.atm (.bl false)) := gIsE_k (T.kit_NoDepot "BadCount" (by decide +kernel))
  have q2 : gIsE K a da (He.ga K "NoDepot") (.ref (He.ga K "BadDeed")) (.exo a da (He.ga K "NoDepot") ns ds) = some (.atm (.bl false)) := gIsE_k (T.kit_NoDepot "BadDeed" (by decide +kernel))
  have q3 : gIsE K a da (He.ga K "NoDepot") (.ref (He.ga K "BadLength")) (.exo a da (He.ga K "NoDepot") ns ds) = some (.atm (.bl false)) := gIsE_k (T.kit_NoDepot "BadLength" (by decide +kernel))
  have q4 : gIsE K a da (He.ga K "NoDepot") (.ref (He.ga K "BadLine")) (.exo a da (He.ga K "NoDepot") ns ds) = some (.atm (.bl false)) := gIsE_k (T.kit_NoDepot "BadLine" (by decide +kernel))
  have q5 : gIsE K a da (He.ga K "NoDepot") (.ref (He.ga K "BadSize")) (.exo a da (He.ga K "NoDepot") ns ds) = some (.atm (.bl false)) := gIsE_k (T.kit_NoDepot "BadSize" (by decide +kernel))
  have q6 : gIsE K a da (He.ga K "NoDepot") (.ref (He.ga K "Below")) (.exo a da (He.ga K "NoDepot") ns ds) = some (.atm (.bl false)) := gIsE_k (T.kit_NoDepot "Below" (by decide +kernel))
  have q7 : gIsE K a da (He.ga K "NoDepot") (.ref (He.ga K "Closes")) (.exo a da (He.ga K "NoDepot") ns ds) = some (.atm (.bl false)) := gIsE_k (T.kit_NoDepot "Closes" (by decide +kernel))
  have q8 : gIsE K a da (He.ga K "NoDepot") (.ref (He.ga K "DeedRefused")) (.exo a da (He.ga K "NoDepot") ns ds) = some (.atm (.bl false)) := gIsE_k (T.kit_NoDepot "DeedRefused" (by decide +kernel))
  have q9 : gIsE K a da (He.ga K "NoDepot") (.ref (He.ga K "NoCustomer")) (.exo a da (He.ga K "NoDepot") ns ds) = some (.atm (.bl false)) := gIsE_k (T.kit_NoDepot "NoCustomer" (by decide +kernel))
  have q10 : gIsE K a da (He.ga K "NoDepot") (.ref (He.ga K "NoCycle")) (.exo a da (He.ga K "NoDepot") ns ds) = some (.atm (.bl false)) := gIsE_k (T.kit_NoDepot "NoCycle" (by decide +kernel))
  have q11 : gIsE K a da (He.ga K "NoDepot") (.ref (He.ga K "NoDemand")) (.exo a da (He.ga K "NoDepot") ns ds) = some (.atm (.bl false)) := gIsE_k (T.kit_NoDepot "NoDemand" (by decide +kernel))
  have q12 : gIsE K a da (He.ga K "NoDepot") (.ref (He.ga K "NoDepot")) (.exo a da (He.ga K "NoDepot") ns ds) = some (.atm (.bl true)) := gIsE_k (T.kit_NoDepot "NoDepot" (by decide +kernel))
  have q13 : gIsE K a da (He.ga K "NoDepot") (.ref (He.ga K "NoLink")) (.exo a da (He.ga K "NoDepot") ns ds) = some (.atm (.bl false)) := gIsE_k (T.kit_NoDepot "NoLink" (by decide +kernel))
  have q14 : gIsE K a da (He.ga K "NoDepot") (.ref (He.ga K "NoNumber")) (.exo a da (He.ga K "NoDepot") ns ds) = some (.atm (.bl false)) := gIsE_k (T.kit_NoDepot "NoNumber" (by decide +kernel))
  have q15 : gIsE K a da (He.ga K "NoDepot") (.ref (He.ga K "NoPlace")) (.exo a da (He.ga K "NoDepot") ns ds) = some (.atm (.bl false)) := gIsE_k (T.kit_NoDepot "NoPlace" (by decide +kernel))
  have q16 : gIsE K a da (He.ga K "NoDepot") (.ref (He.ga K "NoRoute")) (.exo a da (He.ga K "NoDepot") ns ds) = some (.atm (.bl false)) := gIsE_k (T.kit_NoDepot "NoRoute" (by decide +kernel))
  have q17 : gIsE K a da (He.ga K "NoDepot") (.ref (He.ga K "NoSupply")) (.exo a da (He.ga K "NoDepot") ns ds) = some (.atm (.bl false)) := gIsE_k (T.kit_NoDepot "NoSupply" (by decide +kernel))
  have q18 : gIsE K a da (He.ga K "NoDepot") (.ref (He.ga K "NotAcross")) (.exo a da (He.ga K "NoDepot") ns ds) = some (.atm (.bl false)) := gIsE_k (T.kit_NoDepot "NotAcross" (by decide +kernel))
  have q19 : gIsE K a da (He.ga K "NoDepot") (.ref (He.ga K "NotFlexible")) (.exo a da (He.ga K "NoDepot") ns ds) = some (.atm (.bl false)) := gIsE_k (T.kit_NoDepot "NotFlexible" (by decide +kernel))
  have q20 : gIsE K a da (He.ga K "NoDepot") (.ref (He.ga K "NotInTree")) (.exo a da (He.ga K "NoDepot") ns ds) = some (.atm (.bl false)) := gIsE_k (T.kit_NoDepot "NotInTree" (by decide +kernel))
  have q21 : gIsE K a da (He.ga K "NoDepot") (.ref (He.ga K "NotInner")) (.exo a da (He.ga K "NoDepot") ns ds) = some (.atm (.bl false)) := gIsE_k (T.kit_NoDepot "NotInner" (by decide +kernel))
  have q22 : gIsE K a da (He.ga K "NoDepot") (.ref (He.ga K "NotJoined")) (.exo a da (He.ga K "NoDepot") ns ds) = some (.atm (.bl false)) := gIsE_k (T.kit_NoDepot "NotJoined" (by decide +kernel))
  have q23 : gIsE K a da (He.ga K "NoDepot") (.ref (He.ga K "NotMore")) (.exo a da (He.ga K "NoDepot") ns ds) = some (.atm (.bl false)) := gIsE_k (T.kit_NoDepot "NotMore" (by decide +kernel))
  have q24 : gIsE K a da (He.ga K "NoDepot") (.ref (He.ga K "NotPriced")) (.exo a da (He.ga K "NoDepot") ns ds) = some (.atm (.bl false)) := gIsE_k (T.kit_NoDepot "NotPriced" (by decide +kernel))
  have q25 : gIsE K a da (He.ga K "NoDepot") (.ref (He.ga K "NotSpanning")) (.exo a da (He.ga K "NoDepot") ns ds) = some (.atm (.bl false)) := gIsE_k (T.kit_NoDepot "NotSpanning" (by decide +kernel))
  have q26 : gIsE K a da (He.ga K "NoDepot") (.ref (He.ga K "NotSpanningSet")) (.exo a da (He.ga K "NoDepot") ns ds) = some (.atm (.bl false)) := gIsE_k (T.kit_NoDepot "NotSpanningSet" (by decide +kernel))
  have q27 : gIsE K a da (He.ga K "NoDepot") (.ref (He.ga K "NothingLeft")) (.exo a da (He.ga K "NoDepot") ns ds) = some (.atm (.bl false)) := gIsE_k (T.kit_NoDepot "NothingLeft" (by decide +kernel))
  have q28 : gIsE K a da (He.ga K "NoDepot") (.ref (He.ga K "OtherNetwork")) (.exo a da (He.ga K "NoDepot") ns ds) = some (.atm (.bl false)) := gIsE_k (T.kit_NoDepot "OtherNetwork" (by decide +kernel))
  have q29 : gIsE K a da (He.ga K "NoDepot") (.ref (He.ga K "OtherTotals")) (.exo a da (He.ga K "NoDepot") ns ds) = some (.atm (.bl false)) := gIsE_k (T.kit_NoDepot "OtherTotals" (by decide +kernel))
  have q30 : gIsE K a da (He.ga K "NoDepot") (.ref (He.ga K "Overflow")) (.exo a da (He.ga K "NoDepot") ns ds) = some (.atm (.bl false)) := gIsE_k (T.kit_NoDepot "Overflow" (by decide +kernel))
  have q31 : gIsE K a da (He.ga K "NoDepot") (.ref (He.ga K "Repeated")) (.exo a da (He.ga K "NoDepot") ns ds) = some (.atm (.bl false)) := gIsE_k (T.kit_NoDepot "Repeated" (by decide +kernel))
  have q32 : gIsE K a da (He.ga K "NoDepot") (.ref (He.ga K "SameEnds")) (.exo a da (He.ga K "NoDepot") ns ds) = some (.atm (.bl false)) := gIsE_k (T.kit_NoDepot "SameEnds" (by decide +kernel))
  have q33 : gIsE K a da (He.ga K "NoDepot") (.ref (He.ga K "Short")) (.exo a da (He.ga K "NoDepot") ns ds) = some (.atm (.bl false)) := gIsE_k (T.kit_NoDepot "Short" (by decide +kernel))
  have q34 : gIsE K a da (He.ga K "NoDepot") (.ref (He.ga K "Stranded")) (.exo a da (He.ga K "NoDepot") ns ds) = some (.atm (.bl false)) := gIsE_k (T.kit_NoDepot "Stranded" (by decide +kernel))
  have q35 : gIsE K a da (He.ga K "NoDepot") (.ref (He.ga K "TooMany")) (.exo a da (He.ga K "NoDepot") ns ds) = some (.atm (.bl false)) := gIsE_k (T.kit_NoDepot "TooMany" (by decide +kernel))
  have q36 : gIsE K a da (He.ga K "NoDepot") (.ref (He.ga K "Unbalanced")) (.exo a da (He.ga K "NoDepot") ns ds) = some (.atm (.bl false)) := gIsE_k (T.kit_NoDepot "Unbalanced" (by decide +kernel))
  have q37 : gIsE K a da (He.ga K "NoDepot") (.ref (He.ga K "Unfair")) (.exo a da (He.ga K "NoDepot") ns ds) = some (.atm (.bl false)) := gIsE_k (T.kit_NoDepot "Unfair" (by decide +kernel))
  have q38 : gIsE K a da (He.ga K "NoDepot") (.ref (He.ga K "Unread")) (.exo a da (He.ga K "NoDepot") ns ds) = some (.atm (.bl false)) := gIsE_k (T.kit_NoDepot "Unread" (by decide +kernel))
  simp [m_f__law_classes, fnD_e, b_f__law_classes, List.replicate, q0, q1, q2, q3, q4, q5, q6, q7, q8, q9, q10, q11, q12, q13, q14, q15, q16, q17, q18, q19, q20, q21, q22, q23, q24, q25, q26, q27, q28, q29, q30, q31, q32, q33, q34, q35, q36, q37, q38, gCntT, boolsD, gAdd, maskD, hf]
theorem classes_NoCustomer (T : TX Pg K mg) {a da : Addr} {ns : List Str} {ds : List D} (hf : fzns ds = true) : m_f__law_classes K a da (He.ga K "NoCustomer") [.exo a da (He.ga K "NoCustomer") ns ds] = .ok (intD 1) [.jnk] := by
  have q0 : gIsE K a da (He.ga K "NoCustomer") (.ref (He.ga K "BadColumn")) (.exo a da (He.ga K "NoCustomer") ns ds) = some (.atm (.bl false)) := gIsE_k (T.kit_NoCustomer "BadColumn" (by decide +kernel))
  have q1 : gIsE K a da (He.ga K "NoCustomer") (.ref (He.ga K "BadCount")) (.exo a da (He.ga K "NoCustomer") ns ds) = some (.atm (.bl false)) := gIsE_k (T.kit_NoCustomer "BadCount" (by decide +kernel))
  have q2 : gIsE K a da (He.ga K "NoCustomer") (.ref (He.ga K "BadDeed")) (.exo a da (He.ga K "NoCustomer") ns ds) = some (.atm (.bl false)) := gIsE_k (T.kit_NoCustomer "BadDeed" (by decide +kernel))
  have q3 : gIsE K a da (He.ga K "NoCustomer") (.ref (He.ga K "BadLength")) (.exo a da (He.ga K "NoCustomer") ns ds) = some (.atm (.bl false)) := gIsE_k (T.kit_NoCustomer "BadLength" (by decide +kernel))
  have q4 : gIsE K a da (He.ga K "NoCustomer") (.ref (He.ga K "BadLine")) (.exo a da (He.ga K "NoCustomer") ns ds) = some (.atm (.bl false)) := gIsE_k (T.kit_NoCustomer "BadLine" (by decide +kernel))
  have q5 : gIsE K a da (He.ga K "NoCustomer") (.ref (He.ga K "BadSize")) (.exo a da (He.ga K "NoCustomer") ns ds) = some (.atm (.bl false)) := gIsE_k (T.kit_NoCustomer "BadSize" (by decide +kernel))
  have q6 : gIsE K a da (He.ga K "NoCustomer") (.ref (He.ga K "Below")) (.exo a da (He.ga K "NoCustomer") ns ds) = some (.atm (.bl false)) := gIsE_k (T.kit_NoCustomer "Below" (by decide +kernel))
  have q7 : gIsE K a da (He.ga K "NoCustomer") (.ref (He.ga K "Closes")) (.exo a da (He.ga K "NoCustomer") ns ds) = some (.atm (.bl false)) := gIsE_k (T.kit_NoCustomer "Closes" (by decide +kernel))
  have q8 : gIsE K a da (He.ga K "NoCustomer") (.ref (He.ga K "DeedRefused")) (.exo a da (He.ga K "NoCustomer") ns ds) = some (.atm (.bl false)) := gIsE_k (T.kit_NoCustomer "DeedRefused" (by decide +kernel))
  have q9 : gIsE K a da (He.ga K "NoCustomer") (.ref (He.ga K "NoCustomer")) (.exo a da (He.ga K "NoCustomer") ns ds) = some (.atm (.bl true)) := gIsE_k (T.kit_NoCustomer "NoCustomer" (by decide +kernel))
  have q10 : gIsE K a da (He.ga K "NoCustomer") (.ref (He.ga K "NoCycle")) (.exo a da (He.ga K "NoCustomer") ns ds) = some (.atm (.bl false)) := gIsE_k (T.kit_NoCustomer "NoCycle" (by decide +kernel))
  have q11 : gIsE K a da (He.ga K "NoCustomer") (.ref (He.ga K "NoDemand")) (.exo a da (He.ga K "NoCustomer") ns ds) = some (.atm (.bl false)) := gIsE_k (T.kit_NoCustomer "NoDemand" (by decide +kernel))
  have q12 : gIsE K a da (He.ga K "NoCustomer") (.ref (He.ga K "NoDepot")) (.exo a da (He.ga K "NoCustomer") ns ds) = some (.atm (.bl false)) := gIsE_k (T.kit_NoCustomer "NoDepot" (by decide +kernel))
  have q13 : gIsE K a da (He.ga K "NoCustomer") (.ref (He.ga K "NoLink")) (.exo a da (He.ga K "NoCustomer") ns ds) = some (.atm (.bl false)) := gIsE_k (T.kit_NoCustomer "NoLink" (by decide +kernel))
  have q14 : gIsE K a da (He.ga K "NoCustomer") (.ref (He.ga K "NoNumber")) (.exo a da (He.ga K "NoCustomer") ns ds) = some (.atm (.bl false)) := gIsE_k (T.kit_NoCustomer "NoNumber" (by decide +kernel))
  have q15 : gIsE K a da (He.ga K "NoCustomer") (.ref (He.ga K "NoPlace")) (.exo a da (He.ga K "NoCustomer") ns ds) = some (.atm (.bl false)) := gIsE_k (T.kit_NoCustomer "NoPlace" (by decide +kernel))
  have q16 : gIsE K a da (He.ga K "NoCustomer") (.ref (He.ga K "NoRoute")) (.exo a da (He.ga K "NoCustomer") ns ds) = some (.atm (.bl false)) := gIsE_k (T.kit_NoCustomer "NoRoute" (by decide +kernel))
  have q17 : gIsE K a da (He.ga K "NoCustomer") (.ref (He.ga K "NoSupply")) (.exo a da (He.ga K "NoCustomer") ns ds) = some (.atm (.bl false)) := gIsE_k (T.kit_NoCustomer "NoSupply" (by decide +kernel))
  have q18 : gIsE K a da (He.ga K "NoCustomer") (.ref (He.ga K "NotAcross")) (.exo a da (He.ga K "NoCustomer") ns ds) = some (.atm (.bl false)) := gIsE_k (T.kit_NoCustomer "NotAcross" (by decide +kernel))
  have q19 : gIsE K a da (He.ga K "NoCustomer") (.ref (He.ga K "NotFlexible")) (.exo a da (He.ga K "NoCustomer") ns ds) = some (.atm (.bl false)) := gIsE_k (T.kit_NoCustomer "NotFlexible" (by decide +kernel))
  have q20 : gIsE K a da (He.ga K "NoCustomer") (.ref (He.ga K "NotInTree")) (.exo a da (He.ga K "NoCustomer") ns ds) = some (.atm (.bl false)) := gIsE_k (T.kit_NoCustomer "NotInTree" (by decide +kernel))
  have q21 : gIsE K a da (He.ga K "NoCustomer") (.ref (He.ga K "NotInner")) (.exo a da (He.ga K "NoCustomer") ns ds) = some (.atm (.bl false)) := gIsE_k (T.kit_NoCustomer "NotInner" (by decide +kernel))
  have q22 : gIsE K a da (He.ga K "NoCustomer") (.ref (He.ga K "NotJoined")) (.exo a da (He.ga K "NoCustomer") ns ds) = some (.atm (.bl false)) := gIsE_k (T.kit_NoCustomer "NotJoined" (by decide +kernel))
  have q23 : gIsE K a da (He.ga K "NoCustomer") (.ref (He.ga K "NotMore")) (.exo a da (He.ga K "NoCustomer") ns ds) = some (.atm (.bl false)) := gIsE_k (T.kit_NoCustomer "NotMore" (by decide +kernel))
  have q24 : gIsE K a da (He.ga K "NoCustomer") (.ref (He.ga K "NotPriced")) (.exo a da (He.ga K "NoCustomer") ns ds) = some (.atm (.bl false)) := gIsE_k (T.kit_NoCustomer "NotPriced" (by decide +kernel))
  have q25 : gIsE K a da (He.ga K "NoCustomer") (.ref (He.ga K "NotSpanning")) (.exo a da (He.ga K "NoCustomer") ns ds) = some (.atm (.bl false)) := gIsE_k (T.kit_NoCustomer "NotSpanning" (by decide +kernel))
  have q26 : gIsE K a da (He.ga K "NoCustomer") (.ref (He.ga K "NotSpanningSet")) (.exo a da (He.ga K "NoCustomer") ns ds) = some (.atm (.bl false)) := gIsE_k (T.kit_NoCustomer "NotSpanningSet" (by decide +kernel))
  have q27 : gIsE K a da (He.ga K "NoCustomer") (.ref (He.ga K "NothingLeft")) (.exo a da (He.ga K "NoCustomer") ns ds) = some (.atm (.bl false)) := gIsE_k (T.kit_NoCustomer "NothingLeft" (by decide +kernel))
  have q28 : gIsE K a da (He.ga K "NoCustomer") (.ref (He.ga K "OtherNetwork")) (.exo a da (He.ga K "NoCustomer") ns ds) = some (.atm (.bl false)) := gIsE_k (T.kit_NoCustomer "OtherNetwork" (by decide +kernel))
  have q29 : gIsE K a da (He.ga K "NoCustomer") (.ref (He.ga K "OtherTotals")) (.exo a da (He.ga K "NoCustomer") ns ds) = some (.atm (.bl false)) := gIsE_k (T.kit_NoCustomer "OtherTotals" (by decide +kernel))
  have q30 : gIsE K a da (He.ga K "NoCustomer") (.ref (He.ga K "Overflow")) (.exo a da (He.ga K "NoCustomer") ns ds) = some (.atm (.bl false)) := gIsE_k (T.kit_NoCustomer "Overflow" (by decide +kernel))
  have q31 : gIsE K a da (He.ga K "NoCustomer") (.ref (He.ga K "Repeated")) (.exo a da (He.ga K "NoCustomer") ns ds) = some (.atm (.bl false)) := gIsE_k (T.kit_NoCustomer "Repeated" (by decide +kernel))
  have q32 : gIsE K a da (He.ga K "NoCustomer") (.ref (He.ga K "SameEnds")) (.exo a da (He.ga K "NoCustomer") ns ds) = some (.atm (.bl false)) := gIsE_k (T.kit_NoCustomer "SameEnds" (by decide +kernel))
  have q33 : gIsE K a da (He.ga K "NoCustomer") (.ref (He.ga K "Short")) (.exo a da (He.ga K "NoCustomer") ns ds) = some (.atm (.bl false)) := gIsE_k (T.kit_NoCustomer "Short" (by decide +kernel))
  have q34 : gIsE K a da (He.ga K "NoCustomer") (.ref (He.ga K "Stranded")) (.exo a da (He.ga K "NoCustomer") ns ds) = some (.atm (.bl false)) := gIsE_k (T.kit_NoCustomer "Stranded" (by decide +kernel))
  have q35 : gIsE K a da (He.ga K "NoCustomer") (.ref (He.ga K "TooMany")) (.exo a da (He.ga K "NoCustomer") ns ds) = some (.atm (.bl false)) := gIsE_k (T.kit_NoCustomer "TooMany" (by decide +kernel))
  have q36 : gIsE K a da (He.ga K "NoCustomer") (.ref (He.ga K "Unbalanced")) (.exo a da (He.ga K "NoCustomer") ns ds) = some (.atm (.bl false)) := gIsE_k (T.kit_NoCustomer "Unbalanced" (by decide +kernel))
  have q37 : gIsE K a da (He.ga K "NoCustomer") (.ref (He.ga K "Unfair")) (.exo a da (He.ga K "NoCustomer") ns ds) = some (.atm (.bl false)) := gIsE_k (T.kit_NoCustomer "Unfair" (by decide +kernel))
  have q38 : gIsE K a da (He.ga K "NoCustomer") (.ref (He.ga K "Unread")) (.exo a da (He.ga K "NoCustomer") ns ds) = some (.atm (.bl false)) := gIsE_k (T.kit_NoCustomer "Unread" (by decide +kernel))
  simp [m_f__law_classes, fnD_e, b_f__law_classes, List.replicate, q0, q1, q2, q3, q4, q5, q6, q7, q8, q9, q10, q11, q12, q13, q14, q15, q16, q17, q18, q19, q20, q21, q22, q23, q24, q25, q26, q27, q28, q29, q30, q31, q32, q33, q34, q35, q36, q37, q38, gCntT, boolsD, gAdd, maskD, hf]
theorem classes_NoRoute (T : TX Pg K mg) {a da : Addr} {ns : List Str} {ds : List D} (hf : fzns ds = true) : m_f__law_classes K a da (He.ga K "NoRoute") [.exo a da (He.ga K "NoRoute") ns ds] = .ok (intD 1) [.jnk] := by
  have q0 : gIsE K a da (He.ga K "NoRoute") (.ref (He.ga K "BadColumn")) (.exo a da (He.ga K "NoRoute") ns ds) = some (.atm (.bl false)) := gIsE_k (T.kit_NoRoute "BadColumn" (by decide +kernel))
  have q1 : gIsE K a da (He.ga K "NoRoute") (.ref (He.ga K "BadCount")) (.exo a da (He.ga K "NoRoute") ns ds) = some (.atm (.bl false)) := gIsE_k (T.kit_NoRoute "BadCount" (by decide +kernel))
  have q2 : gIsE K a da (He.ga K "NoRoute") (.ref (He.ga K "BadDeed")) (.exo a da (He.ga K "NoRoute") ns ds) = some (.atm (.bl false)) := gIsE_k (T.kit_NoRoute "BadDeed" (by decide +kernel))
  have q3 : gIsE K a da (He.ga K "NoRoute") (.ref (He.ga K "BadLength")) (.exo a da (He.ga K "NoRoute") ns ds) = some (.atm (.bl false)) := gIsE_k (T.kit_NoRoute "BadLength" (by decide +kernel))
  have q4 : gIsE K a da (He.ga K "NoRoute") (.ref (He.ga K "BadLine")) (.exo a da (He.ga K "NoRoute") ns ds) = some (.atm (.bl false)) := gIsE_k (T.kit_NoRoute "BadLine" (by decide +kernel))
  have q5 : gIsE K a da (He.ga K "NoRoute") (.ref (He.ga K "BadSize")) (.exo a da (He.ga K "NoRoute") ns ds) = some (.atm (.bl false)) := gIsE_k (T.kit_NoRoute "BadSize" (by decide +kernel))
  have q6 : gIsE K a da (He.ga K "NoRoute") (.ref (He.ga K "Below")) (.exo a da (He.ga K "NoRoute") ns ds) = some (.atm (.bl false)) := gIsE_k (T.kit_NoRoute "Below" (by decide +kernel))
  have q7 : gIsE K a da (He.ga K "NoRoute") (.ref (He.ga K "Closes")) (.exo a da (He.ga K "NoRoute") ns ds) = some (.atm (.bl false)) := gIsE_k (T.kit_NoRoute "Closes" (by decide +kernel))
  have q8 : gIsE K a da (He.ga K "NoRoute") (.ref (He.ga K "DeedRefused")) (.exo a da (He.ga K "NoRoute") ns ds) = some (.atm (.bl false)) := gIsE_k (T.kit_NoRoute "DeedRefused" (by decide +kernel))
  have q9 : gIsE K a da (He.ga K "NoRoute") (.ref (He.ga K "NoCustomer")) (.exo a da (He.ga K "NoRoute") ns ds) = some (.atm (.bl false)) := gIsE_k (T.kit_NoRoute "NoCustomer" (by decide +kernel))
  have q10 : gIsE K a da (He.ga K "NoRoute") (.ref (He.ga K "NoCycle")) (.exo a da (He.ga K "NoRoute") ns ds) = some (.atm (.bl false)) := gIsE_k (T.kit_NoRoute "NoCycle" (by decide +kernel))
  have q11 : gIsE K a da (He.ga K "NoRoute") (.ref (He.ga K "NoDemand")) (.exo a da (He.ga K "NoRoute") ns ds) = some (.atm (.bl false)) := gIsE_k (T.kit_NoRoute "NoDemand" (by decide +kernel))
  have q12 : gIsE K a da (He.ga K "NoRoute") (.ref (He.ga K "NoDepot")) (.exo a da (He.ga K "NoRoute") ns ds) = some (.atm (.bl false)) := gIsE_k (T.kit_NoRoute "NoDepot" (by decide +kernel))
  have q13 : gIsE K a da (He.ga K "NoRoute") (.ref (He.ga K "NoLink")) (.exo a da (He.ga K "NoRoute") ns ds) = some (.atm (.bl false)) := gIsE_k (T.kit_NoRoute "NoLink" (by decide +kernel))
  have q14 : gIsE K a da (He.ga K "NoRoute") (.ref (He.ga K "NoNumber")) (.exo a da (He.ga K "NoRoute") ns ds) = some (.atm (.bl false)) := gIsE_k (T.kit_NoRoute "NoNumber" (by decide +kernel))
  have q15 : gIsE K a da (He.ga K "NoRoute") (.ref (He.ga K "NoPlace")) (.exo a da (He.ga K "NoRoute") ns ds) = some (.atm (.bl false)) := gIsE_k (T.kit_NoRoute "NoPlace" (by decide +kernel))
  have q16 : gIsE K a da (He.ga K "NoRoute") (.ref (He.ga K "NoRoute")) (.exo a da (He.ga K "NoRoute") ns ds) = some (.atm (.bl true)) := gIsE_k (T.kit_NoRoute "NoRoute" (by decide +kernel))
  have q17 : gIsE K a da (He.ga K "NoRoute") (.ref (He.ga K "NoSupply")) (.exo a da (He.ga K "NoRoute") ns ds) = some (.atm (.bl false)) := gIsE_k (T.kit_NoRoute "NoSupply" (by decide +kernel))
  have q18 : gIsE K a da (He.ga K "NoRoute") (.ref (He.ga K "NotAcross")) (.exo a da (He.ga K "NoRoute") ns ds) = some (.atm (.bl false)) := gIsE_k (T.kit_NoRoute "NotAcross" (by decide +kernel))
  have q19 : gIsE K a da (He.ga K "NoRoute") (.ref (He.ga K "NotFlexible")) (.exo a da (He.ga K "NoRoute") ns ds) = some (.atm (.bl false)) := gIsE_k (T.kit_NoRoute "NotFlexible" (by decide +kernel))
  have q20 : gIsE K a da (He.ga K "NoRoute") (.ref (He.ga K "NotInTree")) (.exo a da (He.ga K "NoRoute") ns ds) = some (.atm (.bl false)) := gIsE_k (T.kit_NoRoute "NotInTree" (by decide +kernel))
  have q21 : gIsE K a da (He.ga K "NoRoute") (.ref (He.ga K "NotInner")) (.exo a da (He.ga K "NoRoute") ns ds) = some (.atm (.bl false)) := gIsE_k (T.kit_NoRoute "NotInner" (by decide +kernel))
  have q22 : gIsE K a da (He.ga K "NoRoute") (.ref (He.ga K "NotJoined")) (.exo a da (He.ga K "NoRoute") ns ds) = some (.atm (.bl false)) := gIsE_k (T.kit_NoRoute "NotJoined" (by decide +kernel))
  have q23 : gIsE K a da (He.ga K "NoRoute") (.ref (He.ga K "NotMore")) (.exo a da (He.ga K "NoRoute") ns ds) = some (.atm (.bl false)) := gIsE_k (T.kit_NoRoute "NotMore" (by decide +kernel))
  have q24 : gIsE K a da (He.ga K "NoRoute") (.ref (He.ga K "NotPriced")) (.exo a da (He.ga K "NoRoute") ns ds) = some (.atm (.bl false)) := gIsE_k (T.kit_NoRoute "NotPriced" (by decide +kernel))
  have q25 : gIsE K a da (He.ga K "NoRoute") (.ref (He.ga K "NotSpanning")) (.exo a da (He.ga K "NoRoute") ns ds) = some (.atm (.bl false)) := gIsE_k (T.kit_NoRoute "NotSpanning" (by decide +kernel))
  have q26 : gIsE K a da (He.ga K "NoRoute") (.ref (He.ga K "NotSpanningSet")) (.exo a da (He.ga K "NoRoute") ns ds) = some (.atm (.bl false)) := gIsE_k (T.kit_NoRoute "NotSpanningSet" (by decide +kernel))
  have q27 : gIsE K a da (He.ga K "NoRoute") (.ref (He.ga K "NothingLeft")) (.exo a da (He.ga K "NoRoute") ns ds) = some (.atm (.bl false)) := gIsE_k (T.kit_NoRoute "NothingLeft" (by decide +kernel))
  have q28 : gIsE K a da (He.ga K "NoRoute") (.ref (He.ga K "OtherNetwork")) (.exo a da (He.ga K "NoRoute") ns ds) = some (.atm (.bl false)) := gIsE_k (T.kit_NoRoute "OtherNetwork" (by decide +kernel))
  have q29 : gIsE K a da (He.ga K "NoRoute") (.ref (He.ga K "OtherTotals")) (.exo a da (He.ga K "NoRoute") ns ds) = some (.atm (.bl false)) := gIsE_k (T.kit_NoRoute "OtherTotals" (by decide +kernel))
  have q30 : gIsE K a da (He.ga K "NoRoute") (.ref (He.ga K "Overflow")) (.exo a da (He.ga K "NoRoute") ns ds) = some (.atm (.bl false)) := gIsE_k (T.kit_NoRoute "Overflow" (by decide +kernel))
  have q31 : gIsE K a da (He.ga K "NoRoute") (.ref (He.ga K "Repeated")) (.exo a da (He.ga K "NoRoute") ns ds) = some (.atm (.bl false)) := gIsE_k (T.kit_NoRoute "Repeated" (by decide +kernel))
  have q32 : gIsE K a da (He.ga K "NoRoute") (.ref (He.ga K "SameEnds")) (.exo a da (He.ga K "NoRoute") ns ds) = some (.atm (.bl false)) := gIsE_k (T.kit_NoRoute "SameEnds" (by decide +kernel))
  have q33 : gIsE K a da (He.ga K "NoRoute") (.ref (He.ga K "Short")) (.exo a da (He.ga K "NoRoute") ns ds) = some (.atm (.bl false)) := gIsE_k (T.kit_NoRoute "Short" (by decide +kernel))
  have q34 : gIsE K a da (He.ga K "NoRoute") (.ref (He.ga K "Stranded")) (.exo a da (He.ga K "NoRoute") ns ds) = some (.atm (.bl false)) := gIsE_k (T.kit_NoRoute "Stranded" (by decide +kernel))
  have q35 : gIsE K a da (He.ga K "NoRoute") (.ref (He.ga K "TooMany")) (.exo a da (He.ga K "NoRoute") ns ds) = some (.atm (.bl false)) := gIsE_k (T.kit_NoRoute "TooMany" (by decide +kernel))
  have q36 : gIsE K a da (He.ga K "NoRoute") (.ref (He.ga K "Unbalanced")) (.exo a da (He.ga K "NoRoute") ns ds) = some (.atm (.bl false)) := gIsE_k (T.kit_NoRoute "Unbalanced" (by decide +kernel))
  have q37 : gIsE K a da (He.ga K "NoRoute") (.ref (He.ga K "Unfair")) (.exo a da (He.ga K "NoRoute") ns ds) = some (.atm (.bl false)) := gIsE_k (T.kit_NoRoute "Unfair" (by decide +kernel))
  have q38 : gIsE K a da (He.ga K "NoRoute") (.ref (He.ga K "Unread")) (.exo a da (He.ga K "NoRoute") ns ds) = some (.atm (.bl false)) := gIsE_k (T.kit_NoRoute "Unread" (by decide +kernel))
  simp [m_f__law_classes, fnD_e, b_f__law_classes, List.replicate, q0, q1, q2, q3, q4, q5, q6, q7, q8, q9, q10, q11, q12, q13, q14, q15, q16, q17, q18, q19, q20, q21, q22, q23, q24, q25, q26, q27, q28, q29, q30, q31, q32, q33, q34, q35, q36, q37, q38, gCntT, boolsD, gAdd, maskD, hf]
theorem classes_Repeated (T : TX Pg K mg) {a da : Addr} {ns : List Str} {ds : List D} (hf : fzns ds = true) : m_f__law_classes K a da (He.ga K "Repeated") [.exo a da (He.ga K "Repeated") ns ds] = .ok (intD 1) [.jnk] := by
  have q0 : gIsE K a da (He.ga K "Repeated") (.ref (He.ga K "BadColumn")) (.exo a da (He.ga K "Repeated") ns ds) = some (.atm (.bl false)) := gIsE_k (T.kit_Repeated "BadColumn" (by decide +kernel))
  have q1 : gIsE K a da (He.ga K "Repeated") (.ref (He.ga K "BadCount")) (.exo a da (He.ga K "Repeated") ns ds) = some (.atm (.bl false)) := gIsE_k (T.kit_Repeated "BadCount" (by decide +kernel))
  have q2 : gIsE K a da (He.ga K "Repeated") (.ref (He.ga K "BadDeed")) (.exo a da (He.ga K "Repeated") ns ds) = some (.atm (.bl false)) := gIsE_k (T.kit_Repeated "BadDeed" (by decide +kernel))
  have q3 : gIsE K a da (He.ga K "Repeated") (.ref (He.ga K "BadLength")) (.exo a da (He.ga K "Repeated") ns ds) = some (.atm (.bl false)) := gIsE_k (T.kit_Repeated "BadLength" (by decide +kernel))
  have q4 : gIsE K a da (He.ga K "Repeated") (.ref (He.ga K "BadLine")) (.exo a da (He.ga K "Repeated") ns ds) = some (.atm (.bl false)) := gIsE_k (T.kit_Repeated "BadLine" (by decide +kernel))
  have q5 : gIsE K a da (He.ga K "Repeated") (.ref (He.ga K "BadSize")) (.exo a da (He.ga K "Repeated") ns ds) = some (.atm (.bl false)) := gIsE_k (T.kit_Repeated "BadSize" (by decide +kernel))
  have q6 : gIsE K a da (He.ga K "Repeated") (.ref (He.ga K "Below")) (.exo a da (He.ga K "Repeated") ns ds) = some (.atm (.bl false)) := gIsE_k (T.kit_Repeated "Below" (by decide +kernel))
  have q7 : gIsE K a da (He.ga K "Repeated") (.ref (He.ga K "Closes")) (.exo a da (He.ga K "Repeated") ns ds) = some (.atm (.bl false)) := gIsE_k (T.kit_Repeated "Closes" (by decide +kernel))
  have q8 : gIsE K a da (He.ga K "Repeated") (.ref (He.ga K "DeedRefused")) (.exo a da (He.ga K "Repeated") ns ds) = some (.atm (.bl false)) := gIsE_k (T.kit_Repeated "DeedRefused" (by decide +kernel))
  have q9 : gIsE K a da (He.ga K "Repeated") (.ref (He.ga K "NoCustomer")) (.exo a da (He.ga K "Repeated") ns ds) = some (.atm (.bl false)) := gIsE_k (T.kit_Repeated "NoCustomer" (by decide +kernel))
  have q10 : gIsE K a da (He.ga K "Repeated") (.ref (He.ga K "NoCycle")) (.exo a da (He.ga K "Repeated") ns ds) = some (.atm (.bl false)) := gIsE_k (T.kit_Repeated "NoCycle" (by decide +kernel))
  have q11 : gIsE K a da (He.ga K "Repeated") (.ref (He.ga K "NoDemand")) (.exo a da (He.ga K "Repeated") ns ds) = some (.atm (.bl false)) := gIsE_k (T.kit_Repeated "NoDemand" (by decide +kernel))
  have q12 : gIsE K a da (He.ga K "Repeated") (.ref (He.ga K "NoDepot")) (.exo a da (He.ga K "Repeated") ns ds) = some (.atm (.bl false)) := gIsE_k (T.kit_Repeated "NoDepot" (by decide +kernel))
  have q13 : gIsE K a da (He.ga K "Repeated") (.ref (He.ga K "NoLink")) (.exo a da (He.ga K "Repeated") ns ds) = some (.atm (.bl false)) := gIsE_k (T.kit_Repeated "NoLink" (by decide +kernel))
  have q14 : gIsE K a da (He.ga K "Repeated") (.ref (He.ga K "NoNumber")) (.exo a da (He.ga K "Repeated") ns ds) = some (.atm (.bl false)) := gIsE_k (T.kit_Repeated "NoNumber" (by decide +kernel))
  have q15 : gIsE K a da (He.ga K "Repeated") (.ref (He.ga K "NoPlace")) (.exo a da (He.ga K "Repeated") ns ds) = some (.atm (.bl false)) := gIsE_k (T.kit_Repeated "NoPlace" (by decide +kernel))
  have q16 : gIsE K a da (He.ga K "Repeated") (.ref (He.ga K "NoRoute")) (.exo a da (He.ga K "Repeated") ns ds) = some (.atm (.bl false)) := gIsE_k (T.kit_Repeated "NoRoute" (by decide +kernel))
  have q17 : gIsE K a da (He.ga K "Repeated") (.ref (He.ga K "NoSupply")) (.exo a da (He.ga K "Repeated") ns ds) = some (.atm (.bl false)) := gIsE_k (T.kit_Repeated "NoSupply" (by decide +kernel))
  have q18 : gIsE K a da (He.ga K "Repeated") (.ref (He.ga K "NotAcross")) (.exo a da (He.ga K "Repeated") ns ds) = some (.atm (.bl false)) := gIsE_k (T.kit_Repeated "NotAcross" (by decide +kernel))
  have q19 : gIsE K a da (He.ga K "Repeated") (.ref (He.ga K "NotFlexible")) (.exo a da (He.ga K "Repeated") ns ds) = some (.atm (.bl false)) := gIsE_k (T.kit_Repeated "NotFlexible" (by decide +kernel))
  have q20 : gIsE K a da (He.ga K "Repeated") (.ref (He.ga K "NotInTree")) (.exo a da (He.ga K "Repeated") ns ds) = some (.atm (.bl false)) := gIsE_k (T.kit_Repeated "NotInTree" (by decide +kernel))
  have q21 : gIsE K a da (He.ga K "Repeated") (.ref (He.ga K "NotInner")) (.exo a da (He.ga K "Repeated") ns ds) = some (.atm (.bl false)) := gIsE_k (T.kit_Repeated "NotInner" (by decide +kernel))
  have q22 : gIsE K a da (He.ga K "Repeated") (.ref (He.ga K "NotJoined")) (.exo a da (He.ga K "Repeated") ns ds) = some (.atm (.bl false)) := gIsE_k (T.kit_Repeated "NotJoined" (by decide +kernel))
  have q23 : gIsE K a da (He.ga K "Repeated") (.ref (He.ga K "NotMore")) (.exo a da (He.ga K "Repeated") ns ds) = some (.atm (.bl false)) := gIsE_k (T.kit_Repeated "NotMore" (by decide +kernel))
  have q24 : gIsE K a da (He.ga K "Repeated") (.ref (He.ga K "NotPriced")) (.exo a da (He.ga K "Repeated") ns ds) = some (.atm (.bl false)) := gIsE_k (T.kit_Repeated "NotPriced" (by decide +kernel))
  have q25 : gIsE K a da (He.ga K "Repeated") (.ref (He.ga K "NotSpanning")) (.exo a da (He.ga K "Repeated") ns ds) = some (.atm (.bl false)) := gIsE_k (T.kit_Repeated "NotSpanning" (by decide +kernel))
  have q26 : gIsE K a da (He.ga K "Repeated") (.ref (He.ga K "NotSpanningSet")) (.exo a da (He.ga K "Repeated") ns ds) = some (.atm (.bl false)) := gIsE_k (T.kit_Repeated "NotSpanningSet" (by decide +kernel))
  have q27 : gIsE K a da (He.ga K "Repeated") (.ref (He.ga K "NothingLeft")) (.exo a da (He.ga K "Repeated") ns ds) = some (.atm (.bl false)) := gIsE_k (T.kit_Repeated "NothingLeft" (by decide +kernel))
  have q28 : gIsE K a da (He.ga K "Repeated") (.ref (He.ga K "OtherNetwork")) (.exo a da (He.ga K "Repeated") ns ds) = some (.atm (.bl false)) := gIsE_k (T.kit_Repeated "OtherNetwork" (by decide +kernel))
  have q29 : gIsE K a da (He.ga K "Repeated") (.ref (He.ga K "OtherTotals")) (.exo a da (He.ga K "Repeated") ns ds) = some (.atm (.bl false)) := gIsE_k (T.kit_Repeated "OtherTotals" (by decide +kernel))
  have q30 : gIsE K a da (He.ga K "Repeated") (.ref (He.ga K "Overflow")) (.exo a da (He.ga K "Repeated") ns ds) = some (.atm (.bl false)) := gIsE_k (T.kit_Repeated "Overflow" (by decide +kernel))
  have q31 : gIsE K a da (He.ga K "Repeated") (.ref (He.ga K "Repeated")) (.exo a da (He.ga K "Repeated") ns ds) = some (.atm (.bl true)) := gIsE_k (T.kit_Repeated "Repeated" (by decide +kernel))
  have q32 : gIsE K a da (He.ga K "Repeated") (.ref (He.ga K "SameEnds")) (.exo a da (He.ga K "Repeated") ns ds) = some (.atm (.bl false)) := gIsE_k (T.kit_Repeated "SameEnds" (by decide +kernel))
  have q33 : gIsE K a da (He.ga K "Repeated") (.ref (He.ga K "Short")) (.exo a da (He.ga K "Repeated") ns ds) = some (.atm (.bl false)) := gIsE_k (T.kit_Repeated "Short" (by decide +kernel))
  have q34 : gIsE K a da (He.ga K "Repeated") (.ref (He.ga K "Stranded")) (.exo a da (He.ga K "Repeated") ns ds) = some (.atm (.bl false)) := gIsE_k (T.kit_Repeated "Stranded" (by decide +kernel))
  have q35 : gIsE K a da (He.ga K "Repeated") (.ref (He.ga K "TooMany")) (.exo a da (He.ga K "Repeated") ns ds) = some (.atm (.bl false)) := gIsE_k (T.kit_Repeated "TooMany" (by decide +kernel))
  have q36 : gIsE K a da (He.ga K "Repeated") (.ref (He.ga K "Unbalanced")) (.exo a da (He.ga K "Repeated") ns ds) = some (.atm (.bl false)) := gIsE_k (T.kit_Repeated "Unbalanced" (by decide +kernel))
  have q37 : gIsE K a da (He.ga K "Repeated") (.ref (He.ga K "Unfair")) (.exo a da (He.ga K "Repeated") ns ds) = some (.atm (.bl false)) := gIsE_k (T.kit_Repeated "Unfair" (by decide +kernel))
  have q38 : gIsE K a da (He.ga K "Repeated") (.ref (He.ga K "Unread")) (.exo a da (He.ga K "Repeated") ns ds) = some (.atm (.bl false)) := gIsE_k (T.kit_Repeated "Unread" (by decide +kernel))
  simp [m_f__law_classes, fnD_e, b_f__law_classes, List.replicate, q0, q1, q2, q3, q4, q5, q6, q7, q8, q9, q10, q11, q12, q13, q14, q15, q16, q17, q18, q19, q20, q21, q22, q23, q24, q25, q26, q27, q28, q29, q30, q31, q32, q33, q34, q35, q36, q37, q38, gCntT, boolsD, gAdd, maskD, hf]
theorem refusal_NoDepot (T : TX Pg K mg) {a da : Addr} {d : D} (hf : fzn d = true) : m_f__law_refusal K a da (He.ga K "NoDepot") [.exo a da (He.ga K "NoDepot") ["depot"] [d]] = .ok (.tup [.atm (.str "refused"), .atm (.str "NoDepot"), d]) [.jnk] := by
  have q0 : gIsE K a da (He.ga K "NoDepot") (.ref (He.ga K "NoDepot")) (.exo a da (He.ga K "NoDepot") ["depot"] [d]) = some (.atm (.bl true)) := gIsE_k (T.kit_NoDepot "NoDepot" (by decide +kernel))
  have q1 : gIsE K a da (He.ga K "NoDepot") (.ref (He.ga K "NoCustomer")) (.exo a da (He.ga K "NoDepot") ["depot"] [d]) = some (.atm (.bl false)) := gIsE_k (T.kit_NoDepot "NoCustomer" (by decide +kernel))
  have q2 : gIsE K a da (He.ga K "NoDepot") (.ref (He.ga K "NoRoute")) (.exo a da (He.ga K "NoDepot") ["depot"] [d]) = some (.atm (.bl false)) := gIsE_k (T.kit_NoDepot "NoRoute" (by decide +kernel))
  have q3 : gIsE K a da (He.ga K "NoDepot") (.ref (He.ga K "Repeated")) (.exo a da (He.ga K "NoDepot") ["depot"] [d]) = some (.atm (.bl false)) := gIsE_k (T.kit_NoDepot "Repeated" (by decide +kernel))
  have qv : gIsE K a da (He.ga K "NoDepot") (.type "ValueError") (.exo a da (He.ga K "NoDepot") ["depot"] [d]) = some (.atm (.bl true)) := gIsE_k T.kiv_NoDepot
  have qx : gXf a da (He.ga K "NoDepot") (He.ga K "NoDepot") "depot" (.exo a da (He.ga K "NoDepot") ["depot"] [d]) = some d := gXf_k hf
  have qc := classes_NoDepot T (a := a) (da := da) (ns := ["depot"]) (ds := [d]) (by simp [fzns, hf])
  simp [m_f__law_refusal, fnD_e, b_f__law_refusal, List.replicate, qv, q0, q1, q2, q3, qx, qc, maskD, fzns, hf]
theorem refusal_NoCustomer (T : TX Pg K mg) {a da : Addr} {d : D} (hf : fzn d = true) : m_f__law_refusal K a da (He.ga K "NoCustomer") [.exo a da (He.ga K "NoCustomer") ["customer"] [d]] = .ok (.tup [.atm (.str "refused"), .atm (.str "NoCustomer"), d]) [.jnk] := by
  have q0 : gIsE K a da (He.ga K "NoCustomer") (.ref (He.ga K "NoDepot")) (.exo a da (He.ga K "NoCustomer") ["customer"] [d]) = some (.atm (.bl false)) := gIsE_k (T.kit_NoCustomer "NoDepot" (by decide +kernel))
  have q1 : gIsE K a da (He.ga K "NoCustomer") (.ref (He.ga K "NoCustomer")) (.exo a da (He.ga K "NoCustomer") ["customer"] [d]) = some (.atm (.bl true)) := gIsE_k (T.kit_NoCustomer "NoCustomer" (by decide +kernel))
  have q2 : gIsE K a da (He.ga K "NoCustomer") (.ref (He.ga K "NoRoute")) (.exo a da (He.ga K "NoCustomer") ["customer"] [d]) = some (.atm (.bl false)) := gIsE_k (T.kit_NoCustomer "NoRoute" (by decide +kernel))
  have q3 : gIsE K a da (He.ga K "NoCustomer") (.ref (He.ga K "Repeated")) (.exo a da (He.ga K "NoCustomer") ["customer"] [d]) = some (.atm (.bl false)) := gIsE_k (T.kit_NoCustomer "Repeated" (by decide +kernel))
  have qv : gIsE K a da (He.ga K "NoCustomer") (.type "ValueError") (.exo a da (He.ga K "NoCustomer") ["customer"] [d]) = some (.atm (.bl true)) := gIsE_k T.kiv_NoCustomer
  have qx : gXf a da (He.ga K "NoCustomer") (He.ga K "NoCustomer") "customer" (.exo a da (He.ga K "NoCustomer") ["customer"] [d]) = some d := gXf_k hf
  have qc := classes_NoCustomer T (a := a) (da := da) (ns := ["customer"]) (ds := [d]) (by simp [fzns, hf])
  simp [m_f__law_refusal, fnD_e, b_f__law_refusal, List.replicate, qv, q0, q1, q2, q3, qx, qc, maskD, fzns, hf]
theorem refusal_NoRoute (T : TX Pg K mg) {a da : Addr} {d : D} (hf : fzn d = true) : m_f__law_refusal K a da (He.ga K "NoRoute") [.exo a da (He.ga K "NoRoute") ["route"] [d]] = .ok (.tup [.atm (.str "refused"), .atm (.str "NoRoute"), d]) [.jnk] := by
  have q0 : gIsE K a da (He.ga K "NoRoute") (.ref (He.ga K "NoDepot")) (.exo a da (He.ga K "NoRoute") ["route"] [d]) = some (.atm (.bl false)) := gIsE_k (T.kit_NoRoute "NoDepot" (by decide +kernel))
  have q1 : gIsE K a da (He.ga K "NoRoute") (.ref (He.ga K "NoCustomer")) (.exo a da (He.ga K "NoRoute") ["route"] [d]) = some (.atm (.bl false)) := gIsE_k (T.kit_NoRoute "NoCustomer" (by decide +kernel))
  have q2 : gIsE K a da (He.ga K "NoRoute") (.ref (He.ga K "NoRoute")) (.exo a da (He.ga K "NoRoute") ["route"] [d]) = some (.atm (.bl true)) := gIsE_k (T.kit_NoRoute "NoRoute" (by decide +kernel))
  have q3 : gIsE K a da (He.ga K "NoRoute") (.ref (He.ga K "Repeated")) (.exo a da (He.ga K "NoRoute") ["route"] [d]) = some (.atm (.bl false)) := gIsE_k (T.kit_NoRoute "Repeated" (by decide +kernel))
  have qv : gIsE K a da (He.ga K "NoRoute") (.type "ValueError") (.exo a da (He.ga K "NoRoute") ["route"] [d]) = some (.atm (.bl true)) := gIsE_k T.kiv_NoRoute
  have qx : gXf a da (He.ga K "NoRoute") (He.ga K "NoRoute") "route" (.exo a da (He.ga K "NoRoute") ["route"] [d]) = some d := gXf_k hf
  have qc := classes_NoRoute T (a := a) (da := da) (ns := ["route"]) (ds := [d]) (by simp [fzns, hf])
  simp [m_f__law_refusal, fnD_e, b_f__law_refusal, List.replicate, qv, q0, q1, q2, q3, qx, qc, maskD, fzns, hf]
theorem refusal_Repeated (T : TX Pg K mg) {a da : Addr} {d : D} (hf : fzn d = true) : m_f__law_refusal K a da (He.ga K "Repeated") [.exo a da (He.ga K "Repeated") ["entry"] [d]] = .ok (.tup [.atm (.str "refused"), .atm (.str "Repeated"), d]) [.jnk] := by
  have q0 : gIsE K a da (He.ga K "Repeated") (.ref (He.ga K "NoDepot")) (.exo a da (He.ga K "Repeated") ["entry"] [d]) = some (.atm (.bl false)) := gIsE_k (T.kit_Repeated "NoDepot" (by decide +kernel))
  have q1 : gIsE K a da (He.ga K "Repeated") (.ref (He.ga K "NoCustomer")) (.exo a da (He.ga K "Repeated") ["entry"] [d]) = some (.atm (.bl false)) := gIsE_k (T.kit_Repeated "NoCustomer" (by decide +kernel))
  have q2 : gIsE K a da (He.ga K "Repeated") (.ref (He.ga K "NoRoute")) (.exo a da (He.ga K "Repeated") ["entry"] [d]) = some (.atm (.bl false)) := gIsE_k (T.kit_Repeated "NoRoute" (by decide +kernel))
  have q3 : gIsE K a da (He.ga K "Repeated") (.ref (He.ga K "Repeated")) (.exo a da (He.ga K "Repeated") ["entry"] [d]) = some (.atm (.bl true)) := gIsE_k (T.kit_Repeated "Repeated" (by decide +kernel))
  have qv : gIsE K a da (He.ga K "Repeated") (.type "ValueError") (.exo a da (He.ga K "Repeated") ["entry"] [d]) = some (.atm (.bl true)) := gIsE_k T.kiv_Repeated
  have qx : gXf a da (He.ga K "Repeated") (He.ga K "Repeated") "entry" (.exo a da (He.ga K "Repeated") ["entry"] [d]) = some d := gXf_k hf
  have qc := classes_Repeated T (a := a) (da := da) (ns := ["entry"]) (ds := [d]) (by simp [fzns, hf])
  simp [m_f__law_refusal, fnD_e, b_f__law_refusal, List.replicate, qv, q0, q1, q2, q3, qx, qc, maskD, fzns, hf]
theorem gxR (T : TX Pg K mg) {i : Nat} : GxOk (knX K) i (fun a da c => (sRt (eCall 1 (m_f__law_refusal K a da c) (aCons (eCp i) aNil)))) (gsL K knF i) := by
  refine gxL fun C f d a da hm hf => ?_
  simp only [knF, List.mem_cons, Prod.mk.injEq, List.not_mem_nil, or_false] at hm
  rcases hm with ⟨rfl, rfl⟩ | ⟨rfl, rfl⟩ | ⟨rfl, rfl⟩ | ⟨rfl, rfl⟩
  · exact ⟨⟨("NoDepot", "depot"), by simp [knF], rfl⟩, refusal_NoDepot T hf⟩
  · exact ⟨⟨("NoCustomer", "customer"), by simp [knF], rfl⟩, refusal_NoCustomer T hf⟩
  · exact ⟨⟨("NoRoute", "route"), by simp [knF], rfl⟩, refusal_NoRoute T hf⟩
  · exact ⟨⟨("Repeated", "entry"), by simp [knF], rfl⟩, refusal_Repeated T hf⟩
theorem ref_NoDepot (T : TX Pg K mg) {d : D} (hf : fzn d = true) : refL K knF ⟨He.ga K "NoDepot", ["depot"], [d]⟩ = some (.tup [.atm (.str "refused"), .atm (.str "NoDepot"), d]) := by
  simp [refL, knF, hf]
theorem ref_NoCustomer (T : TX Pg K mg) {d : D} (hf : fzn d = true) : refL K knF ⟨He.ga K "NoCustomer", ["customer"], [d]⟩ = some (.tup [.atm (.str "refused"), .atm (.str "NoCustomer"), d]) := by
  have n0 : He.ga K "NoCustomer" ≠ He.ga K "NoDepot" := ga_ne (T.kit_NoCustomer "NoDepot" (by decide +kernel)) (T.kit_NoCustomer "NoCustomer" (by decide +kernel)) (by decide)
  simp [refL, knF, hf, n0]
theorem ref_NoRoute (T : TX Pg K mg) {d : D} (hf : fzn d = true) : refL K knF ⟨He.ga K "NoRoute", ["route"], [d]⟩ = some (.tup [.atm (.str "refused"), .atm (.str "NoRoute"), d]) := by
  have n0 : He.ga K "NoRoute" ≠ He.ga K "NoDepot" := ga_ne (T.kit_NoRoute "NoDepot" (by decide +kernel)) (T.kit_NoRoute "NoRoute" (by decide +kernel)) (by decide)
  have n1 : He.ga K "NoRoute" ≠ He.ga K "NoCustomer" := ga_ne (T.kit_NoRoute "NoCustomer" (by decide +kernel)) (T.kit_NoRoute "NoRoute" (by decide +kernel)) (by decide)
  simp [refL, knF, hf, n0, n1]
theorem ref_Repeated (T : TX Pg K mg) {d : D} (hf : fzn d = true) : refL K knF ⟨He.ga K "Repeated", ["entry"], [d]⟩ = some (.tup [.atm (.str "refused"), .atm (.str "Repeated"), d]) := by
  have n0 : He.ga K "Repeated" ≠ He.ga K "NoDepot" := ga_ne (T.kit_Repeated "NoDepot" (by decide +kernel)) (T.kit_Repeated "Repeated" (by decide +kernel)) (by decide)
  have n1 : He.ga K "Repeated" ≠ He.ga K "NoCustomer" := ga_ne (T.kit_Repeated "NoCustomer" (by decide +kernel)) (T.kit_Repeated "Repeated" (by decide +kernel)) (by decide)
  have n2 : He.ga K "Repeated" ≠ He.ga K "NoRoute" := ga_ne (T.kit_Repeated "NoRoute" (by decide +kernel)) (T.kit_Repeated "Repeated" (by decide +kernel)) (by decide)
  simp [refL, knF, hf, n0, n1, n2]
abbrev s_f_Network_customers_of : Stmt := (clsBody (top 55)).getD 9 (.Pass ⟨0, 0, 0, 0⟩)
abbrev N_f_Network_customers_of : List Str := ["self", "depot", "customer", "start"]
theorem sc_f_Network_customers_of : FnScope N_f_Network_customers_of ["self", "depot"] (defScope s_f_Network_customers_of) := ⟨rfl, rfl, rfl, by decide +kernel, rfl, by decide +kernel, by decide +kernel⟩
def b_f_Network_customers_of (K : PySem.W.Frag) : Sv := (sSeq (sEx (eCall 2 (m_f_check_depot K) (aCons (eCp 0) (aCons (eCp 1) aNil)))) (sRt (eLc (fSeq (eU (gFld (He.ga K "Network") "_routes") (eVar 0))) (gT 2 (gsCons (gN 3) (gsCons (gN 2) gsNil))) (tBl (eOp (gEq false) (eVar 3) (eVar 1))) (eCp 2) [3, 2])))
def m_f_Network_customers_of (K : PySem.W.Frag) : Fv := fnD [] 2 4 (b_f_Network_customers_of K)
theorem ok_f_Network_customers_of (T : TX Pg K mg) : FOk Pg w K mg base 5 ("Network", some "customers_of") ["self", "depot"] 2 (m_f_Network_customers_of K) :=
  fn_jF (p := ("Network", some "customers_of")) (x := "customers_of") (qual := "Network.customers_of") (params := defArgs s_f_Network_customers_of) (body := defBody s_f_Network_customers_of) (scope := defScope s_f_Network_customers_of) (T.def_ 23) sc_f_Network_customers_of (fun _ _ _ _ _ _ us hl => match us, hl with | [_, _], _ => rfl) rfl rfl (by decide) rfl fun cdv A outer s H E hr tk po =>
    have hu := hu65 hr
    (bj_cons (sj_ex (ejF tk (ok_f_check_depot T) hr (T.glo 25) (aj_cons (xc 0) (aj_cons (xc 1) aj_nil)))) (bj_one (sj_rt (ej_lc rfl sc_f_Network_customers_of.nd (ij_seq (ej_fld (T.cls 0) (T.noat 1) (xv 0))) (own := [("start", 3), ("customer", 2)]) (blkOk_by (N := N_f_Network_customers_of) (sc := defScope s_f_Network_customers_of) (by decide +kernel)) rfl (fun _ _ _ _ _ => (gj_tup rfl (gsj_cons (xg 3 sc_f_Network_customers_of.nd) (gsj_cons (xg 2 sc_f_Network_customers_of.nd) gsj_nil)))) (fun _ _ _ _ _ => (tsj_one (tj_cm (o_eq hu) (xv 3) (xv 1)))) (fun _ _ _ _ _ => (xc 2))))))
abbrev s_f_Network_depots_of : Stmt := (clsBody (top 55)).getD 10 (.Pass ⟨0, 0, 0, 0⟩)
abbrev N_f_Network_depots_of : List Str := ["self", "customer", "depot", "goal"]
theorem sc_f_Network_depots_of : FnScope N_f_Network_depots_of ["self", "customer"] (defScope s_f_Network_depots_of) := ⟨rfl, rfl, rfl, by decide +kernel, rfl, by decide +kernel, by decide +kernel⟩
def b_f_Network_depots_of (K : PySem.W.Frag) : Sv := (sSeq (sEx (eCall 2 (m_f_check_customer K) (aCons (eCp 0) (aCons (eCp 1) aNil)))) (sRt (eLc (fSeq (eU (gFld (He.ga K "Network") "_routes") (eVar 0))) (gT 2 (gsCons (gN 2) (gsCons (gN 3) gsNil))) (tBl (eOp (gEq false) (eVar 3) (eVar 1))) (eCp 2) [2, 3])))
def m_f_Network_depots_of (K : PySem.W.Frag) : Fv := fnD [] 2 4 (b_f_Network_depots_of K)
theorem ok_f_Network_depots_of (T : TX Pg K mg) : FOk Pg w K mg base 5 ("Network", some "depots_of") ["self", "customer"] 2 (m_f_Network_depots_of K) :=
  fn_jF (p := ("Network", some "depots_of")) (x := "depots_of") (qual := "Network.depots_of") (params := defArgs s_f_Network_depots_of) (body := defBody s_f_Network_depots_of) (scope := defScope s_f_Network_depots_of) (T.def_ 24) sc_f_Network_depots_of (fun _ _ _ _ _ _ us hl => match us, hl with | [_, _], _ => rfl) rfl rfl (by decide) rfl fun cdv A outer s H E hr tk po =>
    have hu := hu65 hr
    (bj_cons (sj_ex (ejF tk (ok_f_check_customer T) hr (T.glo 26) (aj_cons (xc 0) (aj_cons (xc 1) aj_nil)))) (bj_one (sj_rt (ej_lc rfl sc_f_Network_depots_of.nd (ij_seq (ej_fld (T.cls 0) (T.noat 1) (xv 0))) (own := [("depot", 2), ("goal", 3)]) (blkOk_by (N := N_f_Network_depots_of) (sc := defScope s_f_Network_depots_of) (by decide +kernel)) rfl (fun _ _ _ _ _ => (gj_tup rfl (gsj_cons (xg 2 sc_f_Network_depots_of.nd) (gsj_cons (xg 3 sc_f_Network_depots_of.nd) gsj_nil)))) (fun _ _ _ _ _ => (tsj_one (tj_cm (o_eq hu) (xv 3) (xv 1)))) (fun _ _ _ _ _ => (xc 2))))))
abbrev s_f_check_lot : Stmt := top 46
abbrev N_f_check_lot : List Str := ["network", "lot", "chosen", "depot"]
theorem sc_f_check_lot : FnScope N_f_check_lot ["network", "lot"] (defScope s_f_check_lot) := ⟨rfl, rfl, rfl, by decide +kernel, rfl, by decide +kernel, by decide +kernel⟩
def l_f_check_lot_0 (K : PySem.W.Frag) : Sv := (sWp [3] (sSeq (sEx (eCall 2 (m_f_check_depot K) (aCons (eCp 0) (aCons (eCp 3) aNil)))) (sSeq (sIf (tBl (eOp (gIn false) (eVar 3) (eVar 2))) (sRaise (He.ga K "Repeated") "entry" okI (aCons (eCp 3) aNil)) sSkip) (sEx (eMut 2 mApp (aCons (eCp 3) aNil))))))
def b_f_check_lot (K : PySem.W.Frag) : Sv := (sSeq (sAs (gN 2) (eDis (.lst true) aNil)) (sSeq (sFor (fSeq (eCp 1)) (gN 3) (l_f_check_lot_0 K)) (sRt (eMv 2))))
def m_f_check_lot (K : PySem.W.Frag) : Fv := fnD [] 2 4 (b_f_check_lot K)
theorem ok_f_check_lot (T : TX Pg K mg) : FOk Pg w K mg base 5 ("check_lot", none) ["network", "lot"] 2 (m_f_check_lot K) :=
  fn_jF (p := ("check_lot", none)) (x := "check_lot") (qual := "check_lot") (params := defArgs s_f_check_lot) (body := defBody s_f_check_lot) (scope := defScope s_f_check_lot) (T.def_ 25) sc_f_check_lot (fun _ _ _ _ _ _ us hl => match us, hl with | [_, _], _ => rfl) rfl rfl (by decide) rfl fun cdv A outer s H E hr tk po =>
    have hu := hu65 hr
    (bj_cons (xset 2 (ej_lst aj_nil) sc_f_check_lot.nd) (bj_cons (sj_for po rfl (ij_seq (xc 1)) (xg 3 sc_f_check_lot.nd) (bj_wp [3] (bj_cons (sj_ex (ejF tk (ok_f_check_depot T) hr (T.glo 25) (aj_cons (xc 0) (aj_cons (xc 3) aj_nil)))) (bj_cons (sj_if (tj_cm (o_in hu) (xv 3) (xv 2)) (bj_one (xraise tk (T.rz_Repeated _) hr (T.glo 63) (aj_cons (xc 3) aj_nil))) bj_nil) (bj_one (sj_ex (xmut 2 PySem.F.slot_list_append PySem.F.type_list_append mt_append mut_app (aj_cons (xc 3) aj_nil)))))))) (bj_one (sj_rt (xm 2)))))
abbrev s_f_Network_reach : Stmt := (clsBody (top 55)).getD 11 (.Pass ⟨0, 0, 0, 0⟩)
abbrev N_f_Network_reach : List Str := ["self", "lot", "chosen", "reached", "customer", "depot"]
theorem sc_f_Network_reach : FnScope N_f_Network_reach ["self", "lot"] (defScope s_f_Network_reach) := ⟨rfl, rfl, rfl, by decide +kernel, rfl, by decide +kernel, by decide +kernel⟩
def b_f_Network_reach (K : PySem.W.Frag) : Sv := (sSeq (sAs (gN 2) (eFrz (eCall 2 (m_f_check_lot K) (aCons (eCp 0) (aCons (eCp 1) aNil))))) (sSeq (sAs (gN 3) (eFrz (eLc (fSeq (eU (gFld (He.ga K "Network") "_routes") (eVar 0))) (gT 2 (gsCons (gN 5) (gsCons (gN 4) gsNil))) (tBl (eOp (gIn false) (eVar 5) (eVar 2))) (eCp 4) [5, 4]))) (sRt (eLc (fR1 (aCons (eU (gFld (He.ga K "Network") "_customers") (eVar 0)) aNil)) (gN 4) (tBl (eOp (gIn false) (eVar 4) (eVar 3))) (eCp 4) [4]))))
def m_f_Network_reach (K : PySem.W.Frag) : Fv := fnD [] 2 6 (b_f_Network_reach K)
theorem ok_f_Network_reach (T : TX Pg K mg) : FOk Pg w K mg base 6 ("Network", some "reach") ["self", "lot"] 2 (m_f_Network_reach K) :=
  fn_jF (p := ("Network", some "reach")) (x := "reach") (qual := "Network.reach") (params := defArgs s_f_Network_reach) (body := defBody s_f_Network_reach) (scope := defScope s_f_Network_reach) (T.def_ 26) sc_f_Network_reach (fun _ _ _ _ _ _ us hl => match us, hl with | [_, _], _ => rfl) rfl rfl (by decide) rfl fun cdv A outer s H E hr tk po =>
    have hu := hu65 hr
    (bj_cons (xset 2 (ej_frz (ejF tk (ok_f_check_lot T) hr (T.glo 73) (aj_cons (xc 0) (aj_cons (xc 1) aj_nil)))) sc_f_Network_reach.nd) (bj_cons (xset 3 (ej_frz (ej_lc rfl sc_f_Network_reach.nd (ij_seq (ej_fld (T.cls 0) (T.noat 1) (xv 0))) (own := [("depot", 5), ("customer", 4)]) (blkOk_by (N := N_f_Network_reach) (sc := defScope s_f_Network_reach) (by decide +kernel)) rfl (fun _ _ _ _ _ => (gj_tup rfl (gsj_cons (xg 5 sc_f_Network_reach.nd) (gsj_cons (xg 4 sc_f_Network_reach.nd) gsj_nil)))) (fun _ _ _ _ _ => (tsj_one (tj_cm (o_in hu) (xv 5) (xv 2)))) (fun _ _ _ _ _ => (xc 4)))) sc_f_Network_reach.nd) (bj_one (sj_rt (ej_lc rfl sc_f_Network_reach.nd (ij_r1 rfl (T.free 5) (aj_cons (ej_fld (T.cls 0) (T.noat 11) (xv 0)) aj_nil)) (own := [("customer", 4)]) (blkOk_by (N := N_f_Network_reach) (sc := defScope s_f_Network_reach) (by decide +kernel)) rfl (fun _ _ _ _ _ => (xg 4 sc_f_Network_reach.nd)) (fun _ _ _ _ _ => (tsj_one (tj_cm (o_in hu) (xv 4) (xv 3)))) (fun _ _ _ _ _ => (xc 4)))))))
abbrev s_f__law_ask : Stmt := top 65
abbrev N_f__law_ask : List Str := ["_law_network", "_law_word", "_law_thing", "_law_e"]
theorem sc_f__law_ask : FnScope N_f__law_ask ["_law_network", "_law_word", "_law_thing"] (defScope s_f__law_ask) := ⟨rfl, rfl, rfl, by decide +kernel, rfl, by decide +kernel, by decide +kernel⟩
def b_f__law_ask (K : PySem.W.Frag) : Sv := (sTry K (He.ga K "DepotError") 3 (sSeq (sIf (tBl (eOp (gEq false) (eVar 1) (eC (.str "customers_of")))) (sRt (eDis .tup (aCons (eC (.str "told")) (aCons (eMeth (He.ga K "Network") "customers_of" 2 (m_f_Network_customers_of K) (eCp 0) (aCons (eCp 2) aNil)) aNil)))) sSkip) (sSeq (sIf (tBl (eOp (gEq false) (eVar 1) (eC (.str "depots_of")))) (sRt (eDis .tup (aCons (eC (.str "told")) (aCons (eMeth (He.ga K "Network") "depots_of" 2 (m_f_Network_depots_of K) (eCp 0) (aCons (eCp 2) aNil)) aNil)))) sSkip) (sSeq (sIf (tBl (eOp (gEq false) (eVar 1) (eC (.str "reach")))) (sRt (eDis .tup (aCons (eC (.str "told")) (aCons (eMeth (He.ga K "Network") "reach" 2 (m_f_Network_reach K) (eCp 0) (aCons (eCp 2) aNil)) aNil)))) sSkip) (sRt (eDis .tup (aCons (eC (.str "told")) (aCons (eMeth (He.ga K "Network") "index_of" 2 (m_f_Network_index_of K) (eCp 0) (aCons (eCp 2) aNil)) aNil))))))) (gsL K knF 3))
def m_f__law_ask (K : PySem.W.Frag) : Fv := fnD [] 3 4 (b_f__law_ask K)
theorem ok_f__law_ask (T : TX Pg K mg) : FOk Pg w K mg base 7 ("_law_ask", none) ["_law_network", "_law_word", "_law_thing"] 3 (m_f__law_ask K) :=
  fn_jF (p := ("_law_ask", none)) (x := "_law_ask") (qual := "_law_ask") (params := defArgs s_f__law_ask) (body := defBody s_f__law_ask) (scope := defScope s_f__law_ask) (T.def_ 27) sc_f__law_ask (fun _ _ _ _ _ _ us hl => match us, hl with | [_, _, _], _ => rfl) rfl rfl (by decide) rfl fun cdv A outer s H E hr tk po =>
    have hu := hu65 hr
    (bj_one (sj_try (fs := fun a da c => (sRt (eCall 1 (m_f__law_refusal K a da c) (aCons (eCp 3) aNil)))) (kn := knX K) tk (T.glo 79) sc_f__law_ask.nd (fun W1 pn xe tk po => (bj_cons (sj_if (tj_cm (o_eq hu) (xv 1) ej_str) (bj_one (sj_rt (ej_tup (aj_cons ej_str (aj_cons (ejMeth tk (T.cls 0) (T.meth 74) (ok_f_Network_customers_of T) hr (xc 0) (aj_cons (xc 2) aj_nil)) aj_nil))))) bj_nil) (bj_cons (sj_if (tj_cm (o_eq hu) (xv 1) ej_str) (bj_one (sj_rt (ej_tup (aj_cons ej_str (aj_cons (ejMeth tk (T.cls 0) (T.meth 75) (ok_f_Network_depots_of T) hr (xc 0) (aj_cons (xc 2) aj_nil)) aj_nil))))) bj_nil) (bj_cons (sj_if (tj_cm (o_eq hu) (xv 1) ej_str) (bj_one (sj_rt (ej_tup (aj_cons ej_str (aj_cons (ejMeth tk (T.cls 0) (T.meth 76) (ok_f_Network_reach T) hr (xc 0) (aj_cons (xc 2) aj_nil)) aj_nil))))) bj_nil) (bj_one (sj_rt (ej_tup (aj_cons ej_str (aj_cons (ejMeth tk (T.cls 0) (T.meth 77) (ok_f_Network_index_of T) hr (xc 0) (aj_cons (xc 2) aj_nil)) aj_nil))))))))) (fun a da c oe pn hk hx => have hr := roomM hr; have hE := T.knE hk; (bj_one (sj_rt (ejFX takes0 (ok_f__law_refusal T hE) hx hr (T.glo 78) (aj_cons (xc 3) aj_nil))))) (gxR T)))
abbrev s_f__law_all_told : Stmt := top 66
abbrev N_f__law_all_told : List Str := ["_law_network", "_law_sizes", "_law_asked", "_law_lists", "_law_out", "_law_depot", "_law_customer", "_law_pair", "_law_row"]
theorem sc_f__law_all_told : FnScope N_f__law_all_told ["_law_network", "_law_sizes", "_law_asked", "_law_lists"] (defScope s_f__law_all_told) := ⟨rfl, rfl, rfl, by decide +kernel, rfl, by decide +kernel, by decide +kernel⟩
def l_f__law_all_told_0 (K : PySem.W.Frag) : Sv := (sWp [5] (sEx (eMut 4 mApp (aCons (eCall 3 (m_f__law_ask K) (aCons (eCp 0) (aCons (eC (.str "customers_of")) (aCons (eCp 5) aNil)))) aNil))))
def l_f__law_all_told_1 (K : PySem.W.Frag) : Sv := (sWp [6] (sEx (eMut 4 mApp (aCons (eCall 3 (m_f__law_ask K) (aCons (eCp 0) (aCons (eC (.str "depots_of")) (aCons (eCp 6) aNil)))) aNil))))
def l_f__law_all_told_2 (K : PySem.W.Frag) : Sv := (sWp [7] (sSeq (sEx (eMut 4 mApp (aCons (eCall 3 (m_f__law_ask K) (aCons (eCp 0) (aCons (eC (.str "index_of")) (aCons (eCp 7) aNil)))) aNil))) (sEx (eMut 4 mApp (aCons (eOp (gInA [(He.ga K "Network", m_f_Network_contains K)]) (eVar 7) (eVar 0)) aNil)))))
def l_f__law_all_told_3 (K : PySem.W.Frag) : Sv := (sWp [8] (sEx (eMut 4 mApp (aCons (eCall 3 (m_f__law_ask K) (aCons (eCp 0) (aCons (eC (.str "reach")) (aCons (eFrz (eCB gList (aCons (eVar 8) aNil))) aNil)))) aNil))))
def b_f__law_all_told (K : PySem.W.Frag) : Sv := (sSeq (sAs (gN 4) (eDis (.lst true) (aCons (eProp (He.ga K "Network") (m_f_Network_depots K) (eVar 0)) (aCons (eProp (He.ga K "Network") (m_f_Network_customers K) (eVar 0)) (aCons (eProp (He.ga K "Network") (m_f_Network_routes K) (eVar 0)) (aCons (eProp (He.ga K "Network") (m_f_Network_loops K) (eVar 0)) aNil)))))) (sSeq (sAs (gN 4) (eAddM 4 (eDis (.lst true) (aCons (eProp (He.ga K "Network") (m_f_Network_joined K) (eVar 0)) (aCons (eCB (gLenA [(He.ga K "Network", m_f_Network_len K)]) (aCons (eVar 0) aNil)) (aCons (eCB (gStrA [(He.ga K "Network", m_f_Network_str K)]) (aCons (eVar 0) aNil)) (aCons (eMeth (He.ga K "Network") "pieces" 1 (m_f_Network_pieces K) (eCp 0) aNil) aNil))))))) (sSeq (sFor (fR2 (aCons (eU gNeg (eC (.int 1))) (aCons (eOp gAdd (eOp gIx (eVar 1) (eC (.int 0))) (eC (.int 1))) aNil))) (gN 5) (l_f__law_all_told_0 K)) (sSeq (sFor (fR2 (aCons (eU gNeg (eC (.int 1))) (aCons (eOp gAdd (eOp gIx (eVar 1) (eC (.int 1))) (eC (.int 1))) aNil))) (gN 6) (l_f__law_all_told_1 K)) (sSeq (sFor (fSeq (eCp 2)) (gN 7) (l_f__law_all_told_2 K)) (sSeq (sFor (fSeq (eCp 3)) (gN 8) (l_f__law_all_told_3 K)) (sRt (eMv 4))))))))
def m_f__law_all_told (K : PySem.W.Frag) : Fv := fnD [] 4 9 (b_f__law_all_told K)
theorem ok_f__law_all_told (T : TX Pg K mg) : FOk Pg w K mg base 8 ("_law_all_told", none) ["_law_network", "_law_sizes", "_law_asked", "_law_lists"] 4 (m_f__law_all_told K) :=
  fn_jF (p := ("_law_all_told", none)) (x := "_law_all_told") (qual := "_law_all_told") (params := defArgs s_f__law_all_told) (body := defBody s_f__law_all_told) (scope := defScope s_f__law_all_told) (T.def_ 28) sc_f__law_all_told (fun _ _ _ _ _ _ us hl => match us, hl with | [_, _, _, _], _ => rfl) rfl rfl (by decide) rfl fun cdv A outer s H E hr tk po =>
    have hu := hu65 hr
    (bj_cons (xset 4 (ej_lst (aj_cons (ejPropP (T.cls 0) (ok_f_Network_depots T) hr (xv 0)) (aj_cons (ejPropP (T.cls 0) (ok_f_Network_customers T) hr (xv 0)) (aj_cons (ejPropP (T.cls 0) (ok_f_Network_routes T) hr (xv 0)) (aj_cons (ejPropP (T.cls 0) (ok_f_Network_loops T) hr (xv 0)) aj_nil))))) sc_f__law_all_told.nd) (bj_cons (xset 4 (xaddM 4 (ej_lst (aj_cons (ejPropP (T.cls 0) (ok_f_Network_joined T) hr (xv 0)) (aj_cons (ej_cb (b_lenA (kk := 1) (.cons (T.meth 80) (ok_f_Network_len T) (by decide) .nil) (hr.mono (by decide))) rfl (T.free 2) boot_len (aj_cons (xv 0) aj_nil)) (aj_cons (ej_ct (b_strA (kk := 1) (.cons (T.meth 81) (ok_f_Network_str T) (by decide) .nil) (hr.mono (by decide))) rfl (T.free 82) boot_str (aj_cons (xv 0) aj_nil)) (aj_cons (ejMeth0 tk (T.cls 0) (T.meth 31) (ok_f_Network_pieces T) hr (xc 0)) aj_nil)))))) sc_f__law_all_told.nd) (bj_cons (sj_for po rfl (ij_r2 rfl (T.free 5) (aj_cons (ej_neg ej_int) (aj_cons (ej_add (ej_ix (xv 1) ej_int) ej_int) aj_nil))) (xg 5 sc_f__law_all_told.nd) (bj_wp [5] (bj_one (sj_ex (xmut 4 PySem.F.slot_list_append PySem.F.type_list_append mt_append mut_app (aj_cons (ejF tk (ok_f__law_ask T) hr (T.glo 83) (aj_cons (xc 0) (aj_cons ej_str (aj_cons (xc 5) aj_nil)))) aj_nil)))))) (bj_cons (sj_for po rfl (ij_r2 rfl (T.free 5) (aj_cons (ej_neg ej_int) (aj_cons (ej_add (ej_ix (xv 1) ej_int) ej_int) aj_nil))) (xg 6 sc_f__law_all_told.nd) (bj_wp [6] (bj_one (sj_ex (xmut 4 PySem.F.slot_list_append PySem.F.type_list_append mt_append mut_app (aj_cons (ejF tk (ok_f__law_ask T) hr (T.glo 83) (aj_cons (xc 0) (aj_cons ej_str (aj_cons (xc 6) aj_nil)))) aj_nil)))))) (bj_cons (sj_for po rfl (ij_seq (xc 2)) (xg 7 sc_f__law_all_told.nd) (bj_wp [7] (bj_cons (sj_ex (xmut 4 PySem.F.slot_list_append PySem.F.type_list_append mt_append mut_app (aj_cons (ejF tk (ok_f__law_ask T) hr (T.glo 83) (aj_cons (xc 0) (aj_cons ej_str (aj_cons (xc 7) aj_nil)))) aj_nil))) (bj_one (sj_ex (xmut 4 PySem.F.slot_list_append PySem.F.type_list_append mt_append mut_app (aj_cons (ej_cm (o_inA (kk := 1) (.cons (T.meth 33) (ok_f_Network_contains T) (by decide) .nil) (hr.mono (by decide)) hu) (xv 7) (xv 0)) aj_nil))))))) (bj_cons (sj_for po rfl (ij_seq (xc 3)) (xg 8 sc_f__law_all_told.nd) (bj_wp [8] (bj_one (sj_ex (xmut 4 PySem.F.slot_list_append PySem.F.type_list_append mt_append mut_app (aj_cons (ejF tk (ok_f__law_ask T) hr (T.glo 83) (aj_cons (xc 0) (aj_cons ej_str (aj_cons (ej_frz (ej_ct b_list rfl (T.free 16) boot_list (aj_cons (xv 8) aj_nil))) aj_nil)))) aj_nil)))))) (bj_one (sj_rt (xm 4)))))))))
abbrev s_f__law_same : Stmt := top 62
abbrev N_f__law_same : List Str := ["_law_told", "_law_due", "_law_k"]
theorem sc_f__law_same : FnScope N_f__law_same ["_law_told", "_law_due"] (defScope s_f__law_same) := ⟨rfl, rfl, rfl, by decide +kernel, rfl, by decide +kernel, by decide +kernel⟩
def l_f__law_same_0 (K : PySem.W.Frag) (mrec : Fv) : Sv := (sWp [2] (sIf (tNt (tBl (eCall 2 mrec (aCons (eOp gIx (eVar 0) (eVar 2)) (aCons (eOp gIx (eVar 1) (eVar 2)) aNil))))) (sRt (eC (.bl false))) sSkip))
def b_f__law_same (K : PySem.W.Frag) (mrec : Fv) : Sv := (sSeq (sIf (tBl (eU (gIsN false) (eVar 1))) (sRt (eU (gIsN false) (eVar 0))) sSkip) (sSeq (sIf (tBl (eU (gIsT "bool") (eVar 1))) (sRt (eAn (eU (gIsT "bool") (eVar 0)) (eOp (gEq false) (eVar 0) (eVar 1)))) sSkip) (sSeq (sIf (tBl (eU (gIsT "int") (eVar 1))) (sRt (eAn (eU (gIsT "int") (eVar 0)) (eAn (eNt (eU (gIsT "bool") (eVar 0))) (eOp (gEq false) (eVar 0) (eVar 1))))) sSkip) (sSeq (sIf (tBl (eU (gIsT "str") (eVar 1))) (sRt (eAn (eU (gIsT "str") (eVar 0)) (eOp (gEq false) (eVar 0) (eVar 1)))) sSkip) (sSeq (sIf (tAn (tBl (eU (gIsT "list") (eVar 1))) (tNt (tBl (eU (gIsT "list") (eVar 0))))) (sRt (eC (.bl false))) sSkip) (sSeq (sIf (tAn (tBl (eU (gIsT "tuple") (eVar 1))) (tNt (tBl (eU (gIsT "tuple") (eVar 0))))) (sRt (eC (.bl false))) sSkip) (sSeq (sIf (tBl (eOp (gEq true) (eCB gLen (aCons (eVar 0) aNil)) (eCB gLen (aCons (eVar 1) aNil)))) (sRt (eC (.bl false))) sSkip) (sSeq (sFor (fR1 (aCons (eCB gLen (aCons (eVar 1) aNil)) aNil)) (gN 2) (l_f__law_same_0 K mrec)) (sRt (eC (.bl true)))))))))))
def m_f__law_sameR (K : PySem.W.Frag) : Nat → Fv
  | 0 => fun _ => .no
  | k + 1 => fnD [] 2 3 (b_f__law_same K (m_f__law_sameR K k))
theorem okn_f__law_same (T : TX Pg K mg) {k : Nat} {mrec : Fv} (IH : FOk Pg w K mg base k ("_law_same", none) ["_law_told", "_law_due"] 2 mrec) : FOk Pg w K mg base (k + 1) ("_law_same", none) ["_law_told", "_law_due"] 2 (fnD [] 2 3 (b_f__law_same K mrec)) :=
  fn_jF (p := ("_law_same", none)) (x := "_law_same") (qual := "_law_same") (params := defArgs s_f__law_same) (body := defBody s_f__law_same) (scope := defScope s_f__law_same) (T.def_ 29) sc_f__law_same (fun _ _ _ _ _ _ us hl => match us, hl with | [_, _], _ => rfl) rfl rfl (by decide) rfl fun cdv A outer s H E hr tk po =>
    have hu := hu65 hr
    (bj_cons (sj_if (tj_isN (xv 1)) (bj_one (sj_rt (ej_isN (xv 0)))) bj_nil) (bj_cons (sj_if (tj_val (ej_isT rfl (T.free 8) rfl (T.free 84) boot_bool (xv 1))) (bj_one (sj_rt (ej_and (ej_isT rfl (T.free 8) rfl (T.free 84) boot_bool (xv 0)) (ej_one (ej_cm (o_eq hu) (xv 0) (xv 1)))))) bj_nil) (bj_cons (sj_if (tj_val (ej_isT rfl (T.free 8) rfl (T.free 3) boot_int (xv 1))) (bj_one (sj_rt (ej_and (ej_isT rfl (T.free 8) rfl (T.free 3) boot_int (xv 0)) (ej_and (ej_not (ej_isT rfl (T.free 8) rfl (T.free 84) boot_bool (xv 0))) (ej_one (ej_cm (o_eq hu) (xv 0) (xv 1))))))) bj_nil) (bj_cons (sj_if (tj_val (ej_isT rfl (T.free 8) rfl (T.free 82) boot_str (xv 1))) (bj_one (sj_rt (ej_and (ej_isT rfl (T.free 8) rfl (T.free 82) boot_str (xv 0)) (ej_one (ej_cm (o_eq hu) (xv 0) (xv 1)))))) bj_nil) (bj_cons (sj_if (tj_w (wj_and (tj_val (ej_isT rfl (T.free 8) rfl (T.free 16) boot_list (xv 1))) (wj_and1 (tj_not (tj_val (ej_isT rfl (T.free 8) rfl (T.free 16) boot_list (xv 0))))))) (bj_one (sj_rt ej_bl)) bj_nil) (bj_cons (sj_if (tj_w (wj_and (tj_val (ej_isT rfl (T.free 8) rfl (T.free 12) boot_tuple (xv 1))) (wj_and1 (tj_not (tj_val (ej_isT rfl (T.free 8) rfl (T.free 12) boot_tuple (xv 0))))))) (bj_one (sj_rt ej_bl)) bj_nil) (bj_cons (sj_if (tj_cm (o_ne hu) (ej_cb b_len rfl (T.free 2) boot_len (aj_cons (xv 0) aj_nil)) (ej_cb b_len rfl (T.free 2) boot_len (aj_cons (xv 1) aj_nil))) (bj_one (sj_rt ej_bl)) bj_nil) (bj_cons (sj_for po rfl (ij_r1 rfl (T.free 5) (aj_cons (ej_cb b_len rfl (T.free 2) boot_len (aj_cons (xv 1) aj_nil)) aj_nil)) (xg 2 sc_f__law_same.nd) (bj_wp [2] (bj_one (sj_if (tj_not (tj_val (ejF tk IH hr (T.glo 85) (aj_cons (ej_ix (xv 0) (xv 2)) (aj_cons (ej_ix (xv 1) (xv 2)) aj_nil)) (hk := Nat.le_refl _)))) (bj_one (sj_rt ej_bl)) bj_nil)))) (bj_one (sj_rt ej_bl))))))))))
def m_f__law_same (K : PySem.W.Frag) : Fv := m_f__law_sameR K 5
theorem ok_f__law_same (T : TX Pg K mg) : FOk Pg w K mg base 5 ("_law_same", none) ["_law_told", "_law_due"] 2 (m_f__law_same K) :=
  (okn_f__law_same T (okn_f__law_same T (okn_f__law_same T (okn_f__law_same T (okn_f__law_same T (fok_no (p := ("_law_same", none)) (x := "_law_same") (qual := "_law_same") (params := defArgs s_f__law_same) (body := defBody s_f__law_same) (scope := defScope s_f__law_same) (T.def_ 29) (fun _ _ _ _ _ _ us hl => match us, hl with | [_, _], _ => rfl)))))))
abbrev s_f__law_linked : Stmt := top 67
abbrev N_f__law_linked : List Str := ["_law_sizes", "_law_pairs", "_law_labels", "_law_pair", "_law_old", "_law_new", "_law_k", "_law_label"]
theorem sc_f__law_linked : FnScope N_f__law_linked ["_law_sizes", "_law_pairs"] (defScope s_f__law_linked) := ⟨rfl, rfl, rfl, by decide +kernel, rfl, by decide +kernel, by decide +kernel⟩
def l_f__law_linked_0 (K : PySem.W.Frag) : Sv := (sWp [3, 4, 5] (sSeq (sAs (gN 4) (eFrz (eCB gMax (aCons (eOp gIx (eVar 2) (eOp gIx (eVar 3) (eC (.int 0)))) (aCons (eOp gIx (eVar 2) (eOp gAdd (eOp gIx (eVar 0) (eC (.int 0))) (eOp gIx (eVar 3) (eC (.int 1))))) aNil))))) (sSeq (sAs (gN 5) (eFrz (eCB gMin (aCons (eOp gIx (eVar 2) (eOp gIx (eVar 3) (eC (.int 0)))) (aCons (eOp gIx (eVar 2) (eOp gAdd (eOp gIx (eVar 0) (eC (.int 0))) (eOp gIx (eVar 3) (eC (.int 1))))) aNil))))) (sAs (gN 2) (eFrz (eLc (fSeq (eCp 2)) (gN 7) tT (eIf (tBl (eOp (gEq false) (eVar 7) (eVar 4))) (eCp 5) (eCp 7)) [7]))))))
def b_f__law_linked (K : PySem.W.Frag) : Sv := (sSeq (sAs (gN 2) (eFrz (eLc (fR1 (aCons (eOp gAdd (eOp gIx (eVar 0) (eC (.int 0))) (eOp gIx (eVar 0) (eC (.int 1)))) aNil)) (gN 6) tT (eCp 6) [6]))) (sSeq (sFor (fSeq (eCp 1)) (gN 3) (l_f__law_linked_0 K)) (sRt (eCp 2))))
def m_f__law_linked (K : PySem.W.Frag) : Fv := fnD [] 2 8 (b_f__law_linked K)
theorem ok_f__law_linked (T : TX Pg K mg) : FOk Pg w K mg base 1 ("_law_linked", none) ["_law_sizes", "_law_pairs"] 2 (m_f__law_linked K) :=
  fn_jF (p := ("_law_linked", none)) (x := "_law_linked") (qual := "_law_linked") (params := defArgs s_f__law_linked) (body := defBody s_f__law_linked) (scope := defScope s_f__law_linked) (T.def_ 30) sc_f__law_linked (fun _ _ _ _ _ _ us hl => match us, hl with | [_, _], _ => rfl) rfl rfl (by decide) rfl fun cdv A outer s H E hr tk po =>
    have hu := hu65 hr
    (bj_cons (sj_setLcF (i := 2) rfl rfl sc_f__law_linked.nd rfl rfl (sw_true rfl rfl rfl (by decide +kernel)) (ij_r1 rfl (T.free 5) (aj_cons (ej_add (ej_ix (xv 0) ej_int) (ej_ix (xv 0) ej_int)) aj_nil)) (own := [("_law_k", 6)]) (blkOk_by (N := N_f__law_linked) (sc := defScope s_f__law_linked) (by decide +kernel)) rfl (fun _ _ _ _ _ => (xg 6 sc_f__law_linked.nd)) (fun _ _ _ _ _ => tsj_nil) (fun _ _ _ _ _ => (xc 6))) (bj_cons (sj_for po rfl (ij_seq (xc 1)) (xg 3 sc_f__law_linked.nd) (bj_wp [3, 4, 5] (bj_cons (xset 4 (ej_frz (ej_cb (b_max2 rfl) rfl (T.free 14) boot_max (aj_cons (ej_ix (xv 2) (ej_ix (xv 3) ej_int)) (aj_cons (ej_ix (xv 2) (ej_add (ej_ix (xv 0) ej_int) (ej_ix (xv 3) ej_int))) aj_nil)))) sc_f__law_linked.nd) (bj_cons (xset 5 (ej_frz (ej_cb (b_min2 rfl) rfl (T.free 7) boot_min (aj_cons (ej_ix (xv 2) (ej_ix (xv 3) ej_int)) (aj_cons (ej_ix (xv 2) (ej_add (ej_ix (xv 0) ej_int) (ej_ix (xv 3) ej_int))) aj_nil)))) sc_f__law_linked.nd) (bj_one (sj_setLcF (i := 2) rfl rfl sc_f__law_linked.nd rfl rfl (sw_true rfl rfl rfl (by decide +kernel)) (ij_seq (xc 2)) (own := [("_law_label", 7)]) (blkOk_by (N := N_f__law_linked) (sc := defScope s_f__law_linked) (by decide +kernel)) rfl (fun _ _ _ _ _ => (xg 7 sc_f__law_linked.nd)) (fun _ _ _ _ _ => tsj_nil) (fun _ _ _ _ _ => (ej_if (tj_cm (o_eq hu) (xv 7) (xv 4)) (xc 5) (xc 7))))))))) (bj_one (sj_rt (xc 2)))))
abbrev s_f__law_pieces_due : Stmt := top 68
abbrev N_f__law_pieces_due : List Str := ["_law_sizes", "_law_rows", "_law_labels", "_law_start", "_law_out", "_law_k", "_law_ours", "_law_theirs", "_law_depot", "_law_c"]
theorem sc_f__law_pieces_due : FnScope N_f__law_pieces_due ["_law_sizes", "_law_rows"] (defScope s_f__law_pieces_due) := ⟨rfl, rfl, rfl, by decide +kernel, rfl, by decide +kernel, by decide +kernel⟩
def l_f__law_pieces_due_0 (K : PySem.W.Frag) : Sv := (sWp [5, 6, 7] (sWp [6, 7] (sIf (tBl (eOp (gEq false) (eOp gIx (eVar 2) (eVar 5)) (eVar 5))) (sSeq (sAs (gN 6) (eFrz (eLc (fR1 (aCons (eVar 3) aNil)) (gN 8) (tBl (eOp (gEq false) (eOp gIx (eVar 2) (eVar 8)) (eVar 5))) (eCp 8) [8]))) (sSeq (sAs (gN 7) (eFrz (eLc (fR1 (aCons (eOp gIx (eVar 0) (eC (.int 1))) aNil)) (gN 9) (tBl (eOp (gEq false) (eOp gIx (eVar 2) (eOp gAdd (eVar 3) (eVar 9))) (eVar 5))) (eCp 9) [9]))) (sEx (eMut 4 mApp (aCons (eDis .tup (aCons (eCp 6) (aCons (eCp 7) aNil))) aNil))))) sSkip)))
def b_f__law_pieces_due (K : PySem.W.Frag) : Sv := (sSeq (sAs (gN 2) (eFrz (eCall 2 (m_f__law_linked K) (aCons (eCp 0) (aCons (eCp 1) aNil))))) (sSeq (sAs (gN 3) (eFrz (eOp gIx (eVar 0) (eC (.int 0))))) (sSeq (sAs (gN 4) (eDis (.lst true) aNil)) (sSeq (sFor (fR1 (aCons (eCB gLen (aCons (eVar 2) aNil)) aNil)) (gN 5) (l_f__law_pieces_due_0 K)) (sRt (eMv 4))))))
def m_f__law_pieces_due (K : PySem.W.Frag) : Fv := fnD [] 2 10 (b_f__law_pieces_due K)
theorem ok_f__law_pieces_due (T : TX Pg K mg) : FOk Pg w K mg base 2 ("_law_pieces_due", none) ["_law_sizes", "_law_rows"] 2 (m_f__law_pieces_due K) :=
  fn_jF (p := ("_law_pieces_due", none)) (x := "_law_pieces_due") (qual := "_law_pieces_due") (params := defArgs s_f__law_pieces_due) (body := defBody s_f__law_pieces_due) (scope := defScope s_f__law_pieces_due) (T.def_ 31) sc_f__law_pieces_due (fun _ _ _ _ _ _ us hl => match us, hl with | [_, _], _ => rfl) rfl rfl (by decide) rfl fun cdv A outer s H E hr tk po =>
    have hu := hu65 hr
    (bj_cons (xset 2 (ej_frz (ejF tk (ok_f__law_linked T) hr (T.glo 86) (aj_cons (xc 0) (aj_cons (xc 1) aj_nil)))) sc_f__law_pieces_due.nd) (bj_cons (xset 3 (ej_frz (ej_ix (xv 0) ej_int)) sc_f__law_pieces_due.nd) (bj_cons (xset 4 (ej_lst aj_nil) sc_f__law_pieces_due.nd) (bj_cons (sj_for po rfl (ij_r1 rfl (T.free 5) (aj_cons (ej_cb b_len rfl (T.free 2) boot_len (aj_cons (xv 2) aj_nil)) aj_nil)) (xg 5 sc_f__law_pieces_due.nd) (bj_wp [5, 6, 7] (bj_one (sj_wp [6, 7] (sj_if (tj_cm (o_eq hu) (ej_ix (xv 2) (xv 5)) (xv 5)) (bj_cons (sj_setLcF (i := 6) rfl rfl sc_f__law_pieces_due.nd rfl rfl (sw_true rfl rfl rfl (by decide +kernel)) (ij_r1 rfl (T.free 5) (aj_cons (xv 3) aj_nil)) (own := [("_law_depot", 8)]) (blkOk_by (N := N_f__law_pieces_due) (sc := defScope s_f__law_pieces_due) (by decide +kernel)) rfl (fun _ _ _ _ _ => (xg 8 sc_f__law_pieces_due.nd)) (fun _ _ _ _ _ => (tsj_one (tj_cm (o_eq hu) (ej_ix (xv 2) (xv 8)) (xv 5)))) (fun _ _ _ _ _ => (xc 8))) (bj_cons (sj_setLcF (i := 7) rfl rfl sc_f__law_pieces_due.nd rfl rfl (sw_true rfl rfl rfl (by decide +kernel)) (ij_r1 rfl (T.free 5) (aj_cons (ej_ix (xv 0) ej_int) aj_nil)) (own := [("_law_c", 9)]) (blkOk_by (N := N_f__law_pieces_due) (sc := defScope s_f__law_pieces_due) (by decide +kernel)) rfl (fun _ _ _ _ _ => (xg 9 sc_f__law_pieces_due.nd)) (fun _ _ _ _ _ => (tsj_one (tj_cm (o_eq hu) (ej_ix (xv 2) (ej_add (xv 3) (xv 9))) (xv 5)))) (fun _ _ _ _ _ => (xc 9))) (bj_one (sj_ex (xmut 4 PySem.F.slot_list_append PySem.F.type_list_append mt_append mut_app (aj_cons (ej_tup (aj_cons (xc 6) (aj_cons (xc 7) aj_nil))) aj_nil)))))) bj_nil))))) (bj_one (sj_rt (xm 4)))))))
abbrev s_f__law_written : Stmt := top 71
abbrev N_f__law_written : List Str := ["_law_sizes", "_law_rows", "_law_out", "_law_pair"]
theorem sc_f__law_written : FnScope N_f__law_written ["_law_sizes", "_law_rows"] (defScope s_f__law_written) := ⟨rfl, rfl, rfl, by decide +kernel, rfl, by decide +kernel, by decide +kernel⟩
def l_f__law_written_0 (K : PySem.W.Frag) : Sv := (sWp [3] (sAs (gN 2) (eFrz (eOp gAddS (eOp gAddS (eOp gAddS (eOp gAddS (eVar 2) (eC (.str " "))) (eCB (gStrA []) (aCons (eOp gIx (eVar 3) (eC (.int 0))) aNil))) (eC (.str "-"))) (eCB (gStrA []) (aCons (eOp gIx (eVar 3) (eC (.int 1))) aNil))))))
def b_f__law_written (K : PySem.W.Frag) : Sv := (sSeq (sAs (gN 2) (eFrz (eOp gAddS (eOp gAddS (eOp gAddS (eCB (gStrA []) (aCons (eOp gIx (eVar 0) (eC (.int 0))) aNil)) (eC (.str " x "))) (eCB (gStrA []) (aCons (eOp gIx (eVar 0) (eC (.int 1))) aNil))) (eC (.str ":"))))) (sSeq (sFor (fSeq (eCp 1)) (gN 3) (l_f__law_written_0 K)) (sRt (eCp 2))))
def m_f__law_written (K : PySem.W.Frag) : Fv := fnD [] 2 4 (b_f__law_written K)
theorem ok_f__law_written (T : TX Pg K mg) : FOk Pg w K mg base 3 ("_law_written", none) ["_law_sizes", "_law_rows"] 2 (m_f__law_written K) :=
  fn_jF (p := ("_law_written", none)) (x := "_law_written") (qual := "_law_written") (params := defArgs s_f__law_written) (body := defBody s_f__law_written) (scope := defScope s_f__law_written) (T.def_ 32) sc_f__law_written (fun _ _ _ _ _ _ us hl => match us, hl with | [_, _], _ => rfl) rfl rfl (by decide) rfl fun cdv A outer s H E hr tk po =>
    have hu := hu65 hr
    (bj_cons (xset 2 (ej_frz (ej_addS (ej_addS (ej_addS (ej_ct (b_strA (kk := 0) .nil (hr.mono (by decide))) rfl (T.free 82) boot_str (aj_cons (ej_ix (xv 0) ej_int) aj_nil)) ej_str) (ej_ct (b_strA (kk := 0) .nil (hr.mono (by decide))) rfl (T.free 82) boot_str (aj_cons (ej_ix (xv 0) ej_int) aj_nil))) ej_str)) sc_f__law_written.nd) (bj_cons (sj_for po rfl (ij_seq (xc 1)) (xg 3 sc_f__law_written.nd) (bj_wp [3] (bj_one (xset 2 (ej_frz (ej_addS (ej_addS (ej_addS (ej_addS (xv 2) ej_str) (ej_ct (b_strA (kk := 0) .nil (hr.mono (by decide))) rfl (T.free 82) boot_str (aj_cons (ej_ix (xv 3) ej_int) aj_nil))) ej_str) (ej_ct (b_strA (kk := 0) .nil (hr.mono (by decide))) rfl (T.free 82) boot_str (aj_cons (ej_ix (xv 3) ej_int) aj_nil)))) sc_f__law_written.nd)))) (bj_one (sj_rt (xc 2)))))
abbrev s_f__law_index_due : Stmt := top 70
abbrev N_f__law_index_due : List Str := ["_law_sizes", "_law_rows", "_law_pair"]
theorem sc_f__law_index_due : FnScope N_f__law_index_due ["_law_sizes", "_law_rows", "_law_pair"] (defScope s_f__law_index_due) := ⟨rfl, rfl, rfl, by decide +kernel, rfl, by decide +kernel, by decide +kernel⟩
def b_f__law_index_due (K : PySem.W.Frag) : Sv := (sSeq (sIf (tNt (tBl (eCh gLe gLt (eC (.int 0)) (eOp gIx (eVar 2) (eC (.int 0))) (eOp gIx (eVar 0) (eC (.int 0)))))) (sRt (eDis .tup (aCons (eC (.str "refused")) (aCons (eC (.str "NoDepot")) (aCons (eOp gIx (eVar 2) (eC (.int 0))) aNil))))) sSkip) (sSeq (sIf (tNt (tBl (eCh gLe gLt (eC (.int 0)) (eOp gIx (eVar 2) (eC (.int 1))) (eOp gIx (eVar 0) (eC (.int 1)))))) (sRt (eDis .tup (aCons (eC (.str "refused")) (aCons (eC (.str "NoCustomer")) (aCons (eOp gIx (eVar 2) (eC (.int 1))) aNil))))) sSkip) (sSeq (sIf (tBl (eOp (gIn true) (eVar 2) (eVar 1))) (sRt (eDis .tup (aCons (eC (.str "refused")) (aCons (eC (.str "NoRoute")) (aCons (eCp 2) aNil))))) sSkip) (sRt (eDis .tup (aCons (eC (.str "told")) (aCons (eIdx (eVar 1) (eVar 2)) aNil)))))))
def m_f__law_index_due (K : PySem.W.Frag) : Fv := fnD [] 3 3 (b_f__law_index_due K)
theorem ok_f__law_index_due (T : TX Pg K mg) : FOk Pg w K mg base 1 ("_law_index_due", none) ["_law_sizes", "_law_rows", "_law_pair"] 3 (m_f__law_index_due K) :=
  fn_jF (p := ("_law_index_due", none)) (x := "_law_index_due") (qual := "_law_index_due") (params := defArgs s_f__law_index_due) (body := defBody s_f__law_index_due) (scope := defScope s_f__law_index_due) (T.def_ 33) sc_f__law_index_due (fun _ _ _ _ _ _ us hl => match us, hl with | [_, _, _], _ => rfl) rfl rfl (by decide) rfl fun cdv A outer s H E hr tk po =>
    have hu := hu65 hr
    (bj_cons (sj_if (tj_not (tj_ch o_le o_lt ej_int (ej_ix (xv 2) ej_int) (ej_ix (xv 0) ej_int))) (bj_one (sj_rt (ej_tup (aj_cons ej_str (aj_cons ej_str (aj_cons (ej_ix (xv 2) ej_int) aj_nil)))))) bj_nil) (bj_cons (sj_if (tj_not (tj_ch o_le o_lt ej_int (ej_ix (xv 2) ej_int) (ej_ix (xv 0) ej_int))) (bj_one (sj_rt (ej_tup (aj_cons ej_str (aj_cons ej_str (aj_cons (ej_ix (xv 2) ej_int) aj_nil)))))) bj_nil) (bj_cons (sj_if (tj_cm (o_notin hu) (xv 2) (xv 1)) (bj_one (sj_rt (ej_tup (aj_cons ej_str (aj_cons ej_str (aj_cons (xc 2) aj_nil)))))) bj_nil) (bj_one (sj_rt (ej_tup (aj_cons ej_str (aj_cons (ej_index hu (xv 1) (xv 2)) aj_nil))))))))
abbrev s_f__law_reach_due : Stmt := top 69
abbrev N_f__law_reach_due : List Str := ["_law_sizes", "_law_rows", "_law_lot", "_law_k", "_law_seen", "_law_row"]
theorem sc_f__law_reach_due : FnScope N_f__law_reach_due ["_law_sizes", "_law_rows", "_law_lot"] (defScope s_f__law_reach_due) := ⟨rfl, rfl, rfl, by decide +kernel, rfl, by decide +kernel, by decide +kernel⟩
def l_f__law_reach_due_0 (K : PySem.W.Frag) : Sv := (sWp [3] (sSeq (sIf (tNt (tBl (eCh gLe gLt (eC (.int 0)) (eOp gIx (eVar 2) (eVar 3)) (eOp gIx (eVar 0) (eC (.int 0)))))) (sRt (eDis .tup (aCons (eC (.str "refused")) (aCons (eC (.str "NoDepot")) (aCons (eOp gIx (eVar 2) (eVar 3)) aNil))))) sSkip) (sIf (tBl (eOp (gIn false) (eOp gIx (eVar 2) (eVar 3)) (eSl (eVar 2) oNone (oSome (eVar 3))))) (sRt (eDis .tup (aCons (eC (.str "refused")) (aCons (eC (.str "Repeated")) (aCons (eOp gIx (eVar 2) (eVar 3)) aNil))))) sSkip)))
def l_f__law_reach_due_1 (K : PySem.W.Frag) : Sv := (sWp [5] (sIf (tAn (tBl (eOp (gIn false) (eOp gIx (eVar 5) (eC (.int 0))) (eVar 2))) (tBl (eOp (gIn true) (eOp gIx (eVar 5) (eC (.int 1))) (eVar 4)))) (sEx (eMut 4 mApp (aCons (eOp gIx (eVar 5) (eC (.int 1))) aNil))) sSkip))
def b_f__law_reach_due (K : PySem.W.Frag) : Sv := (sSeq (sFor (fR1 (aCons (eCB gLen (aCons (eVar 2) aNil)) aNil)) (gN 3) (l_f__law_reach_due_0 K)) (sSeq (sAs (gN 4) (eDis (.lst true) aNil)) (sSeq (sFor (fSeq (eCp 1)) (gN 5) (l_f__law_reach_due_1 K)) (sRt (eDis .tup (aCons (eC (.str "told")) (aCons (eCB gSorted (aCons (eVar 4) aNil)) aNil)))))))
def m_f__law_reach_due (K : PySem.W.Frag) : Fv := fnD [] 3 6 (b_f__law_reach_due K)
theorem ok_f__law_reach_due (T : TX Pg K mg) : FOk Pg w K mg base 1 ("_law_reach_due", none) ["_law_sizes", "_law_rows", "_law_lot"] 3 (m_f__law_reach_due K) :=
  fn_jF (p := ("_law_reach_due", none)) (x := "_law_reach_due") (qual := "_law_reach_due") (params := defArgs s_f__law_reach_due) (body := defBody s_f__law_reach_due) (scope := defScope s_f__law_reach_due) (T.def_ 34) sc_f__law_reach_due (fun _ _ _ _ _ _ us hl => match us, hl with | [_, _, _], _ => rfl) rfl rfl (by decide) rfl fun cdv A outer s H E hr tk po =>
    have hu := hu65 hr
    (bj_cons (sj_for po rfl (ij_r1 rfl (T.free 5) (aj_cons (ej_cb b_len rfl (T.free 2) boot_len (aj_cons (xv 2) aj_nil)) aj_nil)) (xg 3 sc_f__law_reach_due.nd) (bj_wp [3] (bj_cons (sj_if (tj_not (tj_ch o_le o_lt ej_int (ej_ix (xv 2) (xv 3)) (ej_ix (xv 0) ej_int))) (bj_one (sj_rt (ej_tup (aj_cons ej_str (aj_cons ej_str (aj_cons (ej_ix (xv 2) (xv 3)) aj_nil)))))) bj_nil) (bj_one (sj_if (tj_cm (o_in hu) (ej_ix (xv 2) (xv 3)) (ej_sl (xv 2) oj_none (oj_some (xv 3)))) (bj_one (sj_rt (ej_tup (aj_cons ej_str (aj_cons ej_str (aj_cons (ej_ix (xv 2) (xv 3)) aj_nil)))))) bj_nil))))) (bj_cons (xset 4 (ej_lst aj_nil) sc_f__law_reach_due.nd) (bj_cons (sj_for po rfl (ij_seq (xc 1)) (xg 5 sc_f__law_reach_due.nd) (bj_wp [5] (bj_one (sj_if (tj_w (wj_and (tj_cm (o_in hu) (ej_ix (xv 5) ej_int) (xv 2)) (wj_and1 (tj_cm (o_notin hu) (ej_ix (xv 5) ej_int) (xv 4))))) (bj_one (sj_ex (xmut 4 PySem.F.slot_list_append PySem.F.type_list_append mt_append mut_app (aj_cons (ej_ix (xv 5) ej_int) aj_nil)))) bj_nil)))) (bj_one (sj_rt (ej_tup (aj_cons ej_str (aj_cons (ej_cb b_sorted rfl (T.free 27) boot_sorted (aj_cons (xv 4) aj_nil)) aj_nil))))))))
abbrev s_f__law_all_due : Stmt := top 72
abbrev N_f__law_all_due : List Str := ["_law_sizes", "_law_rows", "_law_asked", "_law_lists", "_law_parts", "_law_loops", "_law_out", "_law_depot", "_law_customer", "_law_pair", "_law_row"]
theorem sc_f__law_all_due : FnScope N_f__law_all_due ["_law_sizes", "_law_rows", "_law_asked", "_law_lists"] (defScope s_f__law_all_due) := ⟨rfl, rfl, rfl, by decide +kernel, rfl, by decide +kernel, by decide +kernel⟩
def l_f__law_all_due_0 (K : PySem.W.Frag) : Sv := (sWp [7] (sEx (eMut 6 mApp (aCons (eDis .tup (aCons (eC (.str "told")) (aCons (eLc (fSeq (eCp 1)) (gN 10) (tBl (eOp (gEq false) (eOp gIx (eVar 10) (eC (.int 0))) (eVar 7))) (eOp gIx (eVar 10) (eC (.int 1))) [10]) aNil))) aNil))))
def l_f__law_all_due_1 (K : PySem.W.Frag) : Sv := (sWp [8] (sEx (eMut 6 mApp (aCons (eDis .tup (aCons (eC (.str "told")) (aCons (eLc (fSeq (eCp 1)) (gN 10) (tBl (eOp (gEq false) (eOp gIx (eVar 10) (eC (.int 1))) (eVar 8))) (eOp gIx (eVar 10) (eC (.int 0))) [10]) aNil))) aNil))))
def l_f__law_all_due_2 (K : PySem.W.Frag) : Sv := (sWp [9] (sSeq (sEx (eMut 6 mApp (aCons (eCall 3 (m_f__law_index_due K) (aCons (eCp 0) (aCons (eCp 1) (aCons (eCp 9) aNil)))) aNil))) (sEx (eMut 6 mApp (aCons (eOp (gIn false) (eVar 9) (eVar 1)) aNil)))))
def l_f__law_all_due_3 (K : PySem.W.Frag) : Sv := (sWp [10] (sEx (eMut 6 mApp (aCons (eCall 3 (m_f__law_reach_due K) (aCons (eCp 0) (aCons (eCp 1) (aCons (eCp 10) aNil)))) aNil))))
def b_f__law_all_due (K : PySem.W.Frag) : Sv := (sSeq (sAs (gN 4) (eFrz (eCall 2 (m_f__law_pieces_due K) (aCons (eCp 0) (aCons (eCp 1) aNil))))) (sSeq (sAs (gN 5) (eFrz (eOp gAdd (eOp gSub (eOp gSub (eCB gLen (aCons (eVar 1) aNil)) (eOp gIx (eVar 0) (eC (.int 0)))) (eOp gIx (eVar 0) (eC (.int 1)))) (eCB gLen (aCons (eVar 4) aNil))))) (sSeq (sAs (gN 6) (eDis (.lst true) (aCons (eOp gIx (eVar 0) (eC (.int 0))) (aCons (eOp gIx (eVar 0) (eC (.int 1))) (aCons (eCB gList (aCons (eVar 1) aNil)) (aCons (eCp 5) (aCons (eOp (gEq false) (eCB gLen (aCons (eVar 4) aNil)) (eC (.int 1))) aNil))))))) (sSeq (sAs (gN 6) (eAddM 6 (eDis (.lst true) (aCons (eCB gLen (aCons (eVar 1) aNil)) (aCons (eCall 2 (m_f__law_written K) (aCons (eCp 0) (aCons (eCp 1) aNil))) (aCons (eCp 4) aNil)))))) (sSeq (sEx (eMut 6 mApp (aCons (eDis .tup (aCons (eC (.str "refused")) (aCons (eC (.str "NoDepot")) (aCons (eU gNeg (eC (.int 1))) aNil)))) aNil))) (sSeq (sFor (fR1 (aCons (eOp gIx (eVar 0) (eC (.int 0))) aNil)) (gN 7) (l_f__law_all_due_0 K)) (sSeq (sEx (eMut 6 mApp (aCons (eDis .tup (aCons (eC (.str "refused")) (aCons (eC (.str "NoDepot")) (aCons (eOp gIx (eVar 0) (eC (.int 0))) aNil)))) aNil))) (sSeq (sEx (eMut 6 mApp (aCons (eDis .tup (aCons (eC (.str "refused")) (aCons (eC (.str "NoCustomer")) (aCons (eU gNeg (eC (.int 1))) aNil)))) aNil))) (sSeq (sFor (fR1 (aCons (eOp gIx (eVar 0) (eC (.int 1))) aNil)) (gN 8) (l_f__law_all_due_1 K)) (sSeq (sEx (eMut 6 mApp (aCons (eDis .tup (aCons (eC (.str "refused")) (aCons (eC (.str "NoCustomer")) (aCons (eOp gIx (eVar 0) (eC (.int 1))) aNil)))) aNil))) (sSeq (sFor (fSeq (eCp 2)) (gN 9) (l_f__law_all_due_2 K)) (sSeq (sFor (fSeq (eCp 3)) (gN 10) (l_f__law_all_due_3 K)) (sRt (eMv 6))))))))))))))
def m_f__law_all_due (K : PySem.W.Frag) : Fv := fnD [] 4 11 (b_f__law_all_due K)
theorem ok_f__law_all_due (T : TX Pg K mg) : FOk Pg w K mg base 4 ("_law_all_due", none) ["_law_sizes", "_law_rows", "_law_asked", "_law_lists"] 4 (m_f__law_all_due K) :=
  fn_jF (p := ("_law_all_due", none)) (x := "_law_all_due") (qual := "_law_all_due") (params := defArgs s_f__law_all_due) (body := defBody s_f__law_all_due) (scope := defScope s_f__law_all_due) (T.def_ 35) sc_f__law_all_due (fun _ _ _ _ _ _ us hl => match us, hl with | [_, _, _, _], _ => rfl) rfl rfl (by decide) rfl fun cdv A outer s H E hr tk po =>
    have hu := hu65 hr
    (bj_cons (xset 4 (ej_frz (ejF tk (ok_f__law_pieces_due T) hr (T.glo 87) (aj_cons (xc 0) (aj_cons (xc 1) aj_nil)))) sc_f__law_all_due.nd) (bj_cons (xset 5 (ej_frz (ej_add (ej_sub (ej_sub (ej_cb b_len rfl (T.free 2) boot_len (aj_cons (xv 1) aj_nil)) (ej_ix (xv 0) ej_int)) (ej_ix (xv 0) ej_int)) (ej_cb b_len rfl (T.free 2) boot_len (aj_cons (xv 4) aj_nil)))) sc_f__law_all_due.nd) (bj_cons (xset 6 (ej_lst (aj_cons (ej_ix (xv 0) ej_int) (aj_cons (ej_ix (xv 0) ej_int) (aj_cons (ej_ct b_list rfl (T.free 16) boot_list (aj_cons (xv 1) aj_nil)) (aj_cons (xc 5) (aj_cons (ej_cm (o_eq hu) (ej_cb b_len rfl (T.free 2) boot_len (aj_cons (xv 4) aj_nil)) ej_int) aj_nil)))))) sc_f__law_all_due.nd) (bj_cons (xset 6 (xaddM 6 (ej_lst (aj_cons (ej_cb b_len rfl (T.free 2) boot_len (aj_cons (xv 1) aj_nil)) (aj_cons (ejF tk (ok_f__law_written T) hr (T.glo 88) (aj_cons (xc 0) (aj_cons (xc 1) aj_nil))) (aj_cons (xc 4) aj_nil))))) sc_f__law_all_due.nd) (bj_cons (sj_ex (xmut 6 PySem.F.slot_list_append PySem.F.type_list_append mt_append mut_app (aj_cons (ej_tup (aj_cons ej_str (aj_cons ej_str (aj_cons (ej_neg ej_int) aj_nil)))) aj_nil))) (bj_cons (sj_for po rfl (ij_r1 rfl (T.free 5) (aj_cons (ej_ix (xv 0) ej_int) aj_nil)) (xg 7 sc_f__law_all_due.nd) (bj_wp [7] (bj_one (sj_ex (xmut 6 PySem.F.slot_list_append PySem.F.type_list_append mt_append mut_app (aj_cons (ej_tup (aj_cons ej_str (aj_cons (ej_lc rfl sc_f__law_all_due.nd (ij_seq (xc 1)) (own := [("_law_row", 10)]) (blkOk_by (N := N_f__law_all_due) (sc := defScope s_f__law_all_due) (by decide +kernel)) rfl (fun _ _ _ _ _ => (xg 10 sc_f__law_all_due.nd)) (fun _ _ _ _ _ => (tsj_one (tj_cm (o_eq hu) (ej_ix (xv 10) ej_int) (xv 7)))) (fun _ _ _ _ _ => (ej_ix (xv 10) ej_int))) aj_nil))) aj_nil)))))) (bj_cons (sj_ex (xmut 6 PySem.F.slot_list_append PySem.F.type_list_append mt_append mut_app (aj_cons (ej_tup (aj_cons ej_str (aj_cons ej_str (aj_cons (ej_ix (xv 0) ej_int) aj_nil)))) aj_nil))) (bj_cons (sj_ex (xmut 6 PySem.F.slot_list_append PySem.F.type_list_append mt_append mut_app (aj_cons (ej_tup (aj_cons ej_str (aj_cons ej_str (aj_cons (ej_neg ej_int) aj_nil)))) aj_nil))) (bj_cons (sj_for po rfl (ij_r1 rfl (T.free 5) (aj_cons (ej_ix (xv 0) ej_int) aj_nil)) (xg 8 sc_f__law_all_due.nd) (bj_wp [8] (bj_one (sj_ex (xmut 6 PySem.F.slot_list_append PySem.F.type_list_append mt_append mut_app (aj_cons (ej_tup (aj_cons ej_str (aj_cons (ej_lc rfl sc_f__law_all_due.nd (ij_seq (xc 1)) (own := [("_law_row", 10)]) (blkOk_by (N := N_f__law_all_due) (sc := defScope s_f__law_all_due) (by decide +kernel)) rfl (fun _ _ _ _ _ => (xg 10 sc_f__law_all_due.nd)) (fun _ _ _ _ _ => (tsj_one (tj_cm (o_eq hu) (ej_ix (xv 10) ej_int) (xv 8)))) (fun _ _ _ _ _ => (ej_ix (xv 10) ej_int))) aj_nil))) aj_nil)))))) (bj_cons (sj_ex (xmut 6 PySem.F.slot_list_append PySem.F.type_list_append mt_append mut_app (aj_cons (ej_tup (aj_cons ej_str (aj_cons ej_str (aj_cons (ej_ix (xv 0) ej_int) aj_nil)))) aj_nil))) (bj_cons (sj_for po rfl (ij_seq (xc 2)) (xg 9 sc_f__law_all_due.nd) (bj_wp [9] (bj_cons (sj_ex (xmut 6 PySem.F.slot_list_append PySem.F.type_list_append mt_append mut_app (aj_cons (ejF tk (ok_f__law_index_due T) hr (T.glo 89) (aj_cons (xc 0) (aj_cons (xc 1) (aj_cons (xc 9) aj_nil)))) aj_nil))) (bj_one (sj_ex (xmut 6 PySem.F.slot_list_append PySem.F.type_list_append mt_append mut_app (aj_cons (ej_cm (o_in hu) (xv 9) (xv 1)) aj_nil))))))) (bj_cons (sj_for po rfl (ij_seq (xc 3)) (xg 10 sc_f__law_all_due.nd) (bj_wp [10] (bj_one (sj_ex (xmut 6 PySem.F.slot_list_append PySem.F.type_list_append mt_append mut_app (aj_cons (ejF tk (ok_f__law_reach_due T) hr (T.glo 90) (aj_cons (xc 0) (aj_cons (xc 1) (aj_cons (xc 10) aj_nil)))) aj_nil)))))) (bj_one (sj_rt (xm 6)))))))))))))))
abbrev s_f__law_right : Stmt := top 73
abbrev N_f__law_right : List Str := ["_law_network", "_law_sizes", "_law_rows", "_law_odd", "_law_asked", "_law_told", "_law_part", "_law_answer"]
theorem sc_f__law_right : FnScope N_f__law_right ["_law_network", "_law_sizes", "_law_rows", "_law_odd"] (defScope s_f__law_right) := ⟨rfl, rfl, rfl, by decide +kernel, rfl, by decide +kernel, by decide +kernel⟩
def l_f__law_right_0 (K : PySem.W.Frag) : Sv := (sWp [6] (sSeq (sEx (eMutP 6 (eC (.int 0)) mApp (aCons (eC (.int 9)) aNil))) (sEx (eMutP 6 (eC (.int 1)) mApp (aCons (eC (.int 9)) aNil)))))
def l_f__law_right_1 (K : PySem.W.Frag) : Sv := (sWp [7] (sIf (tRo (tAn (tBl (eU (gIsT "tuple") (eVar 7))) (tBl (eU (gIsT "list") (eOp gIx (eVar 7) (eC (.int 1))))))) (sEx (eMutP 7 (eC (.int 1)) mApp (aCons (eC (.int 9)) aNil))) sSkip))
def b_f__law_right (K : PySem.W.Frag) : Sv := (sSeq (sAs (gN 4) (eFrz (eOp gAdd (eVar 2) (eOp gIx (eVar 3) (eC (.int 0)))))) (sSeq (sAs (gN 5) (eCall 4 (m_f__law_all_told K) (aCons (eCp 0) (aCons (eCp 1) (aCons (eCp 4) (aCons (eOp gIx (eVar 3) (eC (.int 1))) aNil)))))) (sSeq (sRo [] (sIf (tNt (tBl (eCall 2 (m_f__law_same K) (aCons (eCp 5) (aCons (eFrz (eCall 4 (m_f__law_all_due K) (aCons (eCp 1) (aCons (eCp 2) (aCons (eCp 4) (aCons (eOp gIx (eVar 3) (eC (.int 1))) aNil)))))) aNil))))) (sRt (eC (.bl false))) sSkip)) (sSeq (sEx (eMutP 5 (eC (.int 2)) mRev aNil)) (sSeq (sEx (eMutP 5 (eC (.int 2)) mApp (aCons (eDis .tup (aCons (eC (.int 9)) (aCons (eC (.int 9)) aNil))) aNil))) (sSeq (sForMvP 5 (eC (.int 7)) (gN 6) (l_f__law_right_0 K)) (sSeq (sEx (eMutP 5 (eC (.int 7)) mRev aNil)) (sSeq (sForV (eSlM 5 (oSome (eC (.int 8))) oNone) (gN 7) (l_f__law_right_1 K)) (sRt (eC (.bl true)))))))))))
def m_f__law_right (K : PySem.W.Frag) : Fv := fnD [] 4 8 (b_f__law_right K)
theorem ok_f__law_right (T : TX Pg K mg) : FOk Pg w K mg base 9 ("_law_right", none) ["_law_network", "_law_sizes", "_law_rows", "_law_odd"] 4 (m_f__law_right K) :=
  fn_jF (p := ("_law_right", none)) (x := "_law_right") (qual := "_law_right") (params := defArgs s_f__law_right) (body := defBody s_f__law_right) (scope := defScope s_f__law_right) (T.def_ 36) sc_f__law_right (fun _ _ _ _ _ _ us hl => match us, hl with | [_, _, _, _], _ => rfl) rfl rfl (by decide) rfl fun cdv A outer s H E hr tk po =>
    have hu := hu65 hr
    (bj_cons (xset 4 (ej_frz (ej_add (xv 2) (ej_ix (xv 3) ej_int))) sc_f__law_right.nd) (bj_cons (xset 5 (ejF tk (ok_f__law_all_told T) hr (T.glo 91) (aj_cons (xc 0) (aj_cons (xc 1) (aj_cons (xc 4) (aj_cons (ej_ix (xv 3) ej_int) aj_nil))))) sc_f__law_right.nd) (bj_cons (sj_ro [] (sj_if (tj_not (tj_val (ejF tk (ok_f__law_same T) hr (T.glo 85) (aj_cons (xc 5) (aj_cons (ej_frz (ejF tk (ok_f__law_all_due T) hr (T.glo 92) (aj_cons (xc 1) (aj_cons (xc 2) (aj_cons (xc 4) (aj_cons (ej_ix (xv 3) ej_int) aj_nil)))))) aj_nil))))) (bj_one (sj_rt ej_bl)) bj_nil)) (bj_cons (sj_ex (xmutP0 5 PySem.F.slot_list_reverse PySem.F.type_list_reverse mt_reverse mut_rev ej_int)) (bj_cons (sj_ex (xmutP 5 PySem.F.slot_list_append PySem.F.type_list_append mt_append mut_app ej_int (aj_cons (ej_tup (aj_cons ej_int (aj_cons ej_int aj_nil))) aj_nil))) (bj_cons (sj_pin 5 (xforMvP 5 po ej_int (xg 6 sc_f__law_right.nd) (bj_wp [6] (bj_cons (sj_ex (xmutP 6 PySem.F.slot_list_append PySem.F.type_list_append mt_append mut_app ej_int (aj_cons ej_int aj_nil))) (bj_one (sj_ex (xmutP 6 PySem.F.slot_list_append PySem.F.type_list_append mt_append mut_app ej_int (aj_cons ej_int aj_nil)))))))) (bj_cons (sj_ex (xmutP0 5 PySem.F.slot_list_reverse PySem.F.type_list_reverse mt_reverse mut_rev ej_int)) (bj_cons (sj_forV po (xslM 5 (oj_some ej_int) oj_none) (xg 7 sc_f__law_right.nd) (bj_wp [7] (bj_one (sj_if (tj_ro (tj_w (wj_and (tj_val (ej_isT rfl (T.free 8) rfl (T.free 12) boot_tuple (xv 7))) (wj_and1 (tj_val (ej_isT rfl (T.free 8) rfl (T.free 16) boot_list (ej_ix (xv 7) ej_int))))))) (bj_one (sj_ex (xmutP 7 PySem.F.slot_list_append PySem.F.type_list_append mt_append mut_app ej_int (aj_cons ej_int aj_nil)))) bj_nil)))) (bj_one (sj_rt ej_bl))))))))))
abbrev s_f__law_right_world : Stmt := top 75
abbrev N_f__law_right_world : List Str := ["_law_drawn", "_law_odd_pool", "_law_sizes", "_law_turned_sizes", "_law_rows", "_law_turned_rows", "_law_odd", "_law_turned_odd", "_law_network", "_law_turned_one", "_law_step", "_law_alike", "_law_again", "_law_row"]
theorem sc_f__law_right_world : FnScope N_f__law_right_world ["_law_drawn", "_law_odd_pool"] (defScope s_f__law_right_world) := ⟨rfl, rfl, rfl, by decide +kernel, rfl, by decide +kernel, by decide +kernel⟩
def l_f__law_right_world_0 (K : PySem.W.Frag) : Sv := (sWp [10] (sSeq (sIf (tNt (tBl (eCall 4 (m_f__law_right K) (aCons (eCp 9) (aCons (eCp 3) (aCons (eCp 5) (aCons (eCp 7) aNil))))))) (sRt (eC (.bl false))) sSkip) (sIf (tNt (tBl (eCall 4 (m_f__law_right K) (aCons (eCp 8) (aCons (eCp 2) (aCons (eCp 4) (aCons (eCp 6) aNil))))))) (sRt (eC (.bl false))) sSkip)))
def b_f__law_right_world (K : PySem.W.Frag) : Sv := (sSeq (sAs (gN 2) (eFrz (eOp gIx (eVar 0) (eC (.int 0))))) (sSeq (sAs (gN 3) (eFrz (eDis .tup (aCons (eOp gIx (eVar 2) (eC (.int 1))) (aCons (eOp gIx (eVar 2) (eC (.int 0))) aNil))))) (sSeq (sAs (gN 4) (eFrz (eCB gSorted (aCons (eOp gIx (eVar 0) (eC (.int 1))) aNil)))) (sSeq (sAs (gN 5) (eFrz (eCB gSorted (aCons (eLc (fSeq (eCp 4)) (gN 13) tT (eDis .tup (aCons (eOp gIx (eVar 13) (eC (.int 1))) (aCons (eOp gIx (eVar 13) (eC (.int 0))) aNil))) [13]) aNil)))) (sSeq (sAs (gN 6) (eFrz (eCall 2 (m_f__law_draw_odd K) (aCons (eVar 1) (aCons (eCp 2) aNil))))) (sSeq (sAs (gN 7) (eFrz (eCall 2 (m_f__law_draw_odd K) (aCons (eVar 1) (aCons (eCp 3) aNil))))) (sSeq (sAs (gN 8) (eFrz (eMake (He.ga K "Network") 4 (m_f_Network_init K) (aCons (eOp gIx (eVar 2) (eC (.int 0))) (aCons (eOp gIx (eVar 2) (eC (.int 1))) (aCons (eFrz (eCB gList (aCons (eOp gIx (eVar 0) (eC (.int 1))) aNil))) aNil)))))) (sSeq (sAs (gN 9) (eFrz (eMeth (He.ga K "Network") "turned" 1 (m_f_Network_turned K) (eCp 8) aNil))) (sSeq (sIf (tNt (tBl (eU (gIsO (He.ga K "Network")) (eVar 9)))) (sRt (eC (.bl false))) sSkip) (sSeq (sFor (fR1 (aCons (eC (.int 2)) aNil)) (gN 10) (l_f__law_right_world_0 K)) (sSeq (sAs (gN 11) (eFrz (eAn (eOp (gEqA [(He.ga K "Network", m_f_Network_eq K)]) (eVar 2) (eVar 3)) (eOp (gEqA [(He.ga K "Network", m_f_Network_eq K)]) (eVar 4) (eVar 5))))) (sSeq (sIf (tBl (eOp (gEq true) (eCB gBool (aCons (eOp (gEqA [(He.ga K "Network", m_f_Network_eq K)]) (eVar 8) (eVar 9)) aNil)) (eVar 11))) (sRt (eC (.bl false))) sSkip) (sSeq (sAs (gN 12) (eFrz (eMeth (He.ga K "Network") "turned" 1 (m_f_Network_turned K) (eCp 9) aNil))) (sSeq (sIf (tNt (tBl (eCall 4 (m_f__law_right K) (aCons (eCp 12) (aCons (eCp 2) (aCons (eCp 4) (aCons (eCp 6) aNil))))))) (sRt (eC (.bl false))) sSkip) (sRt (eAn (eCB gBool (aCons (eOp (gEqA [(He.ga K "Network", m_f_Network_eq K)]) (eVar 12) (eVar 8)) aNil)) (eCB gBool (aCons (eOp (gEqA [(He.ga K "Network", m_f_Network_eq K)]) (eVar 8) (eVar 12)) aNil))))))))))))))))))
def m_f__law_right_world (K : PySem.W.Frag) : Fv := fnD [1] 2 14 (b_f__law_right_world K)
theorem ok_f__law_right_world (T : TX Pg K mg) : FOk Pg w K mg base 10 ("_law_right_world", none) ["_law_drawn", "_law_odd_pool"] 2 (m_f__law_right_world K) :=
  fn_jF (p := ("_law_right_world", none)) (x := "_law_right_world") (qual := "_law_right_world") (params := defArgs s_f__law_right_world) (body := defBody s_f__law_right_world) (scope := defScope s_f__law_right_world) (T.def_ 37) sc_f__law_right_world (fun _ _ _ _ _ _ us hl => match us, hl with | [_, _], _ => rfl) rfl rfl (by decide) rfl fun cdv A outer s H E hr tk po =>
    have hu := hu65 hr
    (bj_cons (xset 2 (ej_frz (ej_ix (xv 0) ej_int)) sc_f__law_right_world.nd) (bj_cons (xset 3 (ej_frz (ej_tup (aj_cons (ej_ix (xv 2) ej_int) (aj_cons (ej_ix (xv 2) ej_int) aj_nil)))) sc_f__law_right_world.nd) (bj_cons (xset 4 (ej_frz (ej_cb b_sorted rfl (T.free 27) boot_sorted (aj_cons (ej_ix (xv 0) ej_int) aj_nil))) sc_f__law_right_world.nd) (bj_cons (xset 5 (ej_frz (ej_cb b_sorted rfl (T.free 27) boot_sorted (aj_cons (ej_lc rfl sc_f__law_right_world.nd (ij_seq (xc 4)) (own := [("_law_row", 13)]) (blkOk_by (N := N_f__law_right_world) (sc := defScope s_f__law_right_world) (by decide +kernel)) rfl (fun _ _ _ _ _ => (xg 13 sc_f__law_right_world.nd)) (fun _ _ _ _ _ => tsj_nil) (fun _ _ _ _ _ => (ej_tup (aj_cons (ej_ix (xv 13) ej_int) (aj_cons (ej_ix (xv 13) ej_int) aj_nil))))) aj_nil))) sc_f__law_right_world.nd) (bj_cons (xset 6 (ej_frz (ejF tk (ok_f__law_draw_odd T) hr (T.glo 94) (aj_cons (xv 1) (aj_cons (xc 2) aj_nil)))) sc_f__law_right_world.nd) (bj_cons (xset 7 (ej_frz (ejF tk (ok_f__law_draw_odd T) hr (T.glo 94) (aj_cons (xv 1) (aj_cons (xc 3) aj_nil)))) sc_f__law_right_world.nd) (bj_cons (xset 8 (ej_frz (ejMake tk (T.mkr 32) (ok_f_Network_init T) hr (T.glo 9) (aj_cons (ej_ix (xv 2) ej_int) (aj_cons (ej_ix (xv 2) ej_int) (aj_cons (ej_frz (ej_ct b_list rfl (T.free 16) boot_list (aj_cons (ej_ix (xv 0) ej_int) aj_nil))) aj_nil))))) sc_f__law_right_world.nd) (bj_cons (xset 9 (ej_frz (ejMeth0 tk (T.cls 0) (T.meth 95) (ok_f_Network_turned T) hr (xc 8))) sc_f__law_right_world.nd) (bj_cons (sj_if (tj_not (tj_val (ej_isO T.ins_Network (T.free 8) (T.glo 9) (xv 9)))) (bj_one (sj_rt ej_bl)) bj_nil) (bj_cons (sj_for po rfl (ij_r1 rfl (T.free 5) (aj_cons ej_int aj_nil)) (xg 10 sc_f__law_right_world.nd) (bj_wp [10] (bj_cons (sj_if (tj_not (tj_val (ejF tk (ok_f__law_right T) hr (T.glo 96) (aj_cons (xc 9) (aj_cons (xc 3) (aj_cons (xc 5) (aj_cons (xc 7) aj_nil))))))) (bj_one (sj_rt ej_bl)) bj_nil) (bj_one (sj_if (tj_not (tj_val (ejF tk (ok_f__law_right T) hr (T.glo 96) (aj_cons (xc 8) (aj_cons (xc 2) (aj_cons (xc 4) (aj_cons (xc 6) aj_nil))))))) (bj_one (sj_rt ej_bl)) bj_nil))))) (bj_cons (xset 11 (ej_frz (ej_and (ej_cm (o_eqA (kk := 1) (.cons (T.meth 93) (ok_f_Network_eq T) (by decide) .nil) (hr.mono (by decide)) hu) (xv 2) (xv 3)) (ej_one (ej_cm (o_eqA (kk := 1) (.cons (T.meth 93) (ok_f_Network_eq T) (by decide) .nil) (hr.mono (by decide)) hu) (xv 4) (xv 5))))) sc_f__law_right_world.nd) (bj_cons (sj_if (tj_cm (o_ne hu) (ej_ct b_bool rfl (T.free 84) boot_bool (aj_cons (ej_cm (o_eqA (kk := 1) (.cons (T.meth 93) (ok_f_Network_eq T) (by decide) .nil) (hr.mono (by decide)) hu) (xv 8) (xv 9)) aj_nil)) (xv 11)) (bj_one (sj_rt ej_bl)) bj_nil) (bj_cons (xset 12 (ej_frz (ejMeth0 tk (T.cls 0) (T.meth 95) (ok_f_Network_turned T) hr (xc 9))) sc_f__law_right_world.nd) (bj_cons (sj_if (tj_not (tj_val (ejF tk (ok_f__law_right T) hr (T.glo 96) (aj_cons (xc 12) (aj_cons (xc 2) (aj_cons (xc 4) (aj_cons (xc 6) aj_nil))))))) (bj_one (sj_rt ej_bl)) bj_nil) (bj_one (sj_rt (ej_and (ej_ct b_bool rfl (T.free 84) boot_bool (aj_cons (ej_cm (o_eqA (kk := 1) (.cons (T.meth 93) (ok_f_Network_eq T) (by decide) .nil) (hr.mono (by decide)) hu) (xv 12) (xv 8)) aj_nil)) (ej_one (ej_ct b_bool rfl (T.free 84) boot_bool (aj_cons (ej_cm (o_eqA (kk := 1) (.cons (T.meth 93) (ok_f_Network_eq T) (by decide) .nil) (hr.mono (by decide)) hu) (xv 8) (xv 12)) aj_nil))))))))))))))))))))
abbrev s_f_law : Stmt := top 76
abbrev N_f_law : List Str := ["_law_script", "_law_cells", "_law_k", "_law_pool", "_law_drawn"]
theorem sc_f_law : FnScope N_f_law ["_law_script"] (defScope s_f_law) := ⟨rfl, rfl, rfl, by decide +kernel, rfl, by decide +kernel, by decide +kernel⟩
def l_f_law_0 (K : PySem.W.Frag) : Sv := (sWp [2, 3, 4] (sSeq (sAs (gN 3) (eCall 2 (m_f__law_source K) (aCons (eCp 1) (aCons (eOp gMul (eC (.int 2)) (eVar 2)) aNil)))) (sSeq (sAs (gN 4) (eFrz (eCall 1 (m_f__law_draw K) (aCons (eVar 3) aNil)))) (sSeq (sIf (tBl (eOp (gEq false) (eCall 2 (m_f__law_take K) (aCons (eVar 3) (aCons (eC (.int 4)) aNil))) (eC (.int 3)))) (sAs (gN 4) (eFrz (eCall 2 (m_f__law_mirrored K) (aCons (eOp gIx (eVar 4) (eC (.int 0))) (aCons (eOp gIx (eVar 4) (eC (.int 1))) aNil))))) sSkip) (sIf (tNt (tBl (eCall 2 (m_f__law_right_world K) (aCons (eCp 4) (aCons (eCall 2 (m_f__law_source K) (aCons (eCp 1) (aCons (eOp gAdd (eOp gMul (eC (.int 2)) (eVar 2)) (eC (.int 1))) aNil))) aNil))))) (sRt (eC (.bl false))) sSkip)))))
def b_f_law (K : PySem.W.Frag) : Sv := (sSeq (sAs (gN 1) (eFrz (eSl (eVar 0) oNone (oSome (eC (.int 63)))))) (sSeq (sFor (fR1 (aCons (eC (.int 2)) aNil)) (gN 2) (l_f_law_0 K)) (sRt (eC (.bl true)))))
def m_f_law (K : PySem.W.Frag) : Fv := fnD [] 1 5 (b_f_law K)
theorem okL_f_law (T : TX Pg K mg) {fd : FuncData} (F : FunD K "law" "law" (defArgs s_f_law) (defBody s_f_law) (defScope s_f_law) [] [] (He.fAd K ("law", none)) fd) : FnOk Pg w K mg base (L2.CX Pg w) 11 (He.fAd K ("law", none)) fd ["_law_script"] (spD 1 (m_f_law K)) :=
  fn_j F sc_f_law rfl rfl (by decide) rfl fun cdv A outer s H E hr tk po =>
    have hu := hu65 hr
    (bj_cons (xset 1 (ej_frz (ej_sl (xv 0) oj_none (oj_some ej_int))) sc_f_law.nd) (bj_cons (sj_for po rfl (ij_r1 rfl (T.free 5) (aj_cons ej_int aj_nil)) (xg 2 sc_f_law.nd) (bj_wp [2, 3, 4] (bj_cons (xset 3 (ejF tk (ok_f__law_source T) hr (T.glo 97) (aj_cons (xc 1) (aj_cons (ej_mul ej_int (xv 2)) aj_nil))) sc_f_law.nd) (bj_cons (xset 4 (ej_frz (ejF tk (ok_f__law_draw T) hr (T.glo 98) (aj_cons (xv 3) aj_nil))) sc_f_law.nd) (bj_cons (sj_if (tj_cm (o_eq hu) (ejF tk (ok_f__law_take T) hr (T.glo 6) (aj_cons (xv 3) (aj_cons ej_int aj_nil))) ej_int) (bj_one (xset 4 (ej_frz (ejF tk (ok_f__law_mirrored T) hr (T.glo 99) (aj_cons (ej_ix (xv 4) ej_int) (aj_cons (ej_ix (xv 4) ej_int) aj_nil)))) sc_f_law.nd)) bj_nil) (bj_one (sj_if (tj_not (tj_val (ejF tk (ok_f__law_right_world T) hr (T.glo 100) (aj_cons (xc 4) (aj_cons (ejF tk (ok_f__law_source T) hr (T.glo 97) (aj_cons (xc 1) (aj_cons (ej_add (ej_mul ej_int (xv 2)) ej_int) aj_nil))) aj_nil))))) (bj_one (sj_rt ej_bl)) bj_nil))))))) (bj_one (sj_rt ej_bl))))
end Lw
set_option Elab.async false
set_option linter.all false
set_option maxRecDepth 100000
set_option maxHeartbeats 2000000
namespace Lw
open PySem VS
variable {K : PySem.W.Frag}
theorem take_ok (n m : Int) (h0 : 0 < m) (h1 : m < 1073741824) : m_f__law_take K [.lst true [intD n], intD m] = .ok (intD (n % m)) [.lst true [intD (n / m)], .jnk] := by
  simp [m_f__law_take, fnD_e, b_f__law_take, List.replicate, gIx, L2.atI, L2.ixN, cDiv, h0, h1, maskD]
theorem take_ex (n m : Int) (h0 : 0 < m) (h1 : m < 1073741824) : ∃ u n', 0 ≤ u ∧ u < m ∧ m_f__law_take K [.lst true [intD n], intD m] = .ok (intD u) [.lst true [intD n'], .jnk] :=
  ⟨_, _, Int.emod_nonneg _ (by omega), Int.emod_lt_of_pos _ h0, take_ok n m h0 h1⟩
theorem cell_ok (ns : List Int) (k : Int) (hk : 0 ≤ k) (hl : ns.length ≤ 63) : ∃ v, m_f__law_cell_of K [.lst false (mL intD ns), intD k] = .ok (intD v) [.jnk, .jnk] := by
  by_cases h : k < ns.length
  · refine ⟨aI ns k, ?_⟩
    have hx := gIx_at (o := false) hk h
    simp [m_f__law_cell_of, fnD_e, b_f__law_cell_of, List.replicate, h, maskD, hx]
  · obtain ⟨h1, _⟩ := forD_fold (g := gN 3) (b := l_f__law_cell_of_0 K) (en := intD) (fun m x => (m * 48271 + x * 69621 + 11) % 2147483647)
      (fun m => [.lst false (mL intD ns), .atm (.int k), .atm (.int m), .jnk]) ns (7919 * (k + 1)) (fun _ => True) trivial (fun m x _ _ => ⟨⟨_, rfl, by simp [l_f__law_cell_of_0, cMul]⟩, trivial⟩) rfl
    refine ⟨ns.foldl (fun m x => (m * 48271 + x * 69621 + 11) % 2147483647) (7919 * (k + 1)), ?_⟩
    simp [m_f__law_cell_of, fnD_e, b_f__law_cell_of, List.replicate, h, maskD, cMul, h1]
theorem source_ok (ns : List Int) (k : Int) (hk : 0 ≤ k) (hl : ns.length ≤ 63) : ∃ v, m_f__law_source K [.lst false (mL intD ns), intD k] = .ok (.lst true [intD v]) [.jnk, .jnk] := by
  obtain ⟨c, hc⟩ := cell_ok (K := K) ns k hk hl
  by_cases h : (1000000000000000000 : Int) ≤ c
  · refine ⟨c, ?_⟩
    simp [m_f__law_source, fnD_e, b_f__law_source, List.replicate, hc, cPow, h, maskD]
  · have hloop := forD_nx (g := gN 5) (b := l_f__law_source_0 K)
      (Inv := fun _ e => ∃ s g, 0 ≤ s ∧ s < 2147483647 ∧ e = [.lst false (mL intD ns), .atm (.int k), .atm (.int c), .atm (.int s), .atm (.int g), .jnk]) (rngD 0 12) 0 [.lst false (mL intD ns), .atm (.int k), .atm (.int c), .atm (.int ((c * 48271 + k * 69621 + 11) % 2147483647)), .atm (.int 0), .jnk] ⟨_, _, by omega, by omega, rfl⟩ (by
        rintro i d e hd ⟨s, g, h1, h2, rfl⟩
        obtain ⟨rfl, _⟩ := rngD_get hd
        generalize (0 : Int) + (i : Int) = x
        have hb : -18446744073709551616 < s ∧ s < 18446744073709551616 := by omega
        refine ⟨_, [.lst false (mL intD ns), .atm (.int k), .atm (.int c), intD ((s * s + s * 48271 + x * 7919 + 13) % 2147483629), intD (g * 2147483629 + (s * s + s * 48271 + x * 7919 + 13) % 2147483629), .jnk], rfl, ?_, _, _, by omega, by omega, rfl⟩
        simp [l_f__law_source_0, cMul, hb])
    obtain ⟨e', h1, s, g, _, _, rfl⟩ := hloop
    refine ⟨g, ?_⟩
    simp [m_f__law_source, fnD_e, b_f__law_source, List.replicate, hc, cPow, h, maskD, cMul, h1]
end Lw
set_option Elab.async false
set_option linter.all false
set_option maxRecDepth 100000
set_option maxHeartbeats 2000000
namespace Lw
open PySem VS
variable {K : PySem.W.Frag}
def allP (b : Int) (i : Nat) : List (Int × Int) := (List.range i).map fun (k : Nat) => ((k : Int) / b, (k : Int) % b)
theorem allP_succ (b : Int) (i : Nat) : allP b (i + 1) = allP b i ++ [((i : Int) / b, (i : Int) % b)] := by
  unfold allP
  rw [List.range_succ, List.map_append]
  rfl
theorem allP_nodup (b : Int) (hb : 0 < b) (i : Nat) : (allP b i).Nodup := by
  unfold allP
  refine List.Pairwise.map _ (fun x y h => ?_) List.nodup_range
  intro z
  apply h
  simp only [Prod.mk.injEq] at z
  have h1 := Int.mul_ediv_add_emod (x : Int) b
  have h2 := Int.mul_ediv_add_emod (y : Int) b
  rw [z.1, z.2] at h1
  omega
def PR (a b : Int) (p : Int × Int) : Prop := 0 ≤ p.1 ∧ p.1 < a ∧ 0 ≤ p.2 ∧ p.2 < b
theorem allP_in (a b : Int) (hb : 0 < b) (p : Int × Int) (h : p ∈ allP b (a * b).toNat) : PR a b p := by
  unfold allP at h
  obtain ⟨k, hk, rfl⟩ := List.mem_map.mp h
  have hk := List.mem_range.mp hk
  have h0 : (0 : Int) ≤ k := by omega
  have h1 : (k : Int) < a * b := by omega
  exact ⟨Int.ediv_nonneg h0 (by omega), Int.ediv_lt_of_lt_mul hb h1, Int.emod_nonneg _ (by omega), Int.emod_lt_of_pos _ hb⟩
structure Net (a b : Int) (ps : List (Int × Int)) : Prop where
  a1 : 1 ≤ a
  a8 : a ≤ 8
  b1 : 1 ≤ b
  b8 : b ≤ 8
  nd : ps.Nodup
  inr : ∀ p ∈ ps, PR a b p
  len : ps.length ≤ 16
end Lw
set_option Elab.async false
set_option linter.all false
set_option maxRecDepth 100000
set_option maxHeartbeats 2000000
namespace Lw
open PySem VS
variable {K : PySem.W.Frag}
abbrev il (o : Bool) (ns : List Int) : D := .lst o (mL intD ns)
abbrev pl (o : Bool) (ps : List (Int × Int)) : D := .lst o (mL pairD ps)
/-! labels -/
def jn (ls : List Int) (x y : Int) : List Int := ls.map fun l => if l = (if y > x then y else x) then (if y < x then y else x) else l
def stepL (a : Int) (ls : List Int) (p : Int × Int) : List Int := jn ls (aI ls p.1) (aI ls (a + p.2))
def labs (a b : Int) (ps : List (Int × Int)) : List Int := ps.foldl (stepL a) (rI 0 (a + b).toNat)
@[simp] theorem jn_len (ls : List Int) (x y : Int) : (jn ls x y).length = ls.length := by simp [jn]
theorem foldL_len (a : Int) : ∀ (ps : List (Int × Int)) (ls : List Int), (ps.foldl (stepL a) ls).length = ls.length
  | [], ls => rfl
  | p :: ps, ls => by rw [List.foldl_cons, foldL_len a ps, stepL, jn_len]
@[simp] theorem labs_len (a b : Int) (ps : List (Int × Int)) : (labs a b ps).length = (a + b).toNat := by
  unfold labs
  rw [foldL_len]
  simp
theorem linked_ok {a b : Int} {ps : List (Int × Int)} (h : Net a b ps) :
    m_f__law_linked K [.tup [intD a, intD b], pl false ps] = .ok (il false (labs a b ps)) [.jnk, .jnk] := by
  obtain ⟨a1, a8, b1, b8, _, hp, _⟩ := h
  obtain ⟨c, hc⟩ : ∃ c : Nat, (c : Int) = a + b := ⟨(a + b).toNat, by omega⟩
  have hcn : (a + b).toNat = c := by omega
  have C0 := lc_all (g := gN 6) (te := eCp 6) (vs := [6]) (e0 := [.tup [intD a, intD b], pl false ps, .jnk, .jnk, .jnk, .jnk, .jnk, .jnk]) (en := intD) (en' := intD) (rI 0 c) (fun x => x) _
    (fun x => rfl) (fun x => rfl) (fun x _ => rfl) (by simp; omega)
  rw [← rngD_int] at C0
  simp only [List.map_id'] at C0
  obtain ⟨h1, _⟩ := forD_fold (g := gN 3) (b := l_f__law_linked_0 K) (en := pairD) (stepL a) (fun ls => [.tup [intD a, intD b], pl false ps, il false ls, .jnk, .jnk, .jnk, .jnk, .jnk]) ps (rI 0 c) (fun ls => ls.length = c) (by simp) (by
    rintro ls ⟨x, y⟩ hx hl
    obtain ⟨p1, p2, p3, p4⟩ := hp _ hx
    simp only at p1 p2 p3 p4
    refine ⟨⟨_, rfl, ?_⟩, by simp [stepL, hl]⟩
    have g1 := gIx_at (o := false) (ls := ls) p1 (by omega)
    have g2 := gIx_at (o := false) (ls := ls) (x := a + y) (by omega) (by omega)
    obtain ⟨u, hu⟩ : ∃ u, u = aI ls x := ⟨_, rfl⟩
    obtain ⟨v, hv⟩ : ∃ v, v = aI ls (a + y) := ⟨_, rfl⟩
    have C1 := fun mx mn : Int => lc_all (g := gN 7) (te := eIf (tBl (eOp (gEq false) (eVar 7) (eVar 4))) (eCp 5) (eCp 7)) (vs := [7]) (e0 := [.tup [intD a, intD b], pl false ps, il false ls, .tup [intD x, intD y], intD mx, intD mn, .jnk, .jnk]) (en := intD) (en' := intD) ls (fun l => if l = mx then mn else l) _
      (fun x => rfl) (fun x => rfl) (fun z _ => by by_cases h : z = mx <;> simp [h]) (by omega)
    simp [l_f__law_linked_0, g1, g2, ← hu, ← hv, wipeE, C1, stepL, jn]) rfl
  have r1 : -100000 ≤ a + b ∧ a + b ≤ 100000 := by omega
  rw [show ps.foldl (stepL a) (rI 0 c) = labs a b ps by rw [labs, hcn]] at h1
  simp [m_f__law_linked, fnD_e, b_f__law_linked, List.replicate, r1, hcn, wipeE, C0, h1, maskD]
/-! pieces -/
def pcs (a b : Int) (ls : List Int) (i : Nat) : List (List Int × List Int) := ((rI 0 i).filter fun k => decide (aI ls k = k)).map fun k => ((rI 0 a.toNat).filter (fun x => decide (aI ls x = k)), (rI 0 b.toNat).filter (fun x => decide (aI ls (a + x) = k)))
def pieceD (o : Bool) (p : List Int × List Int) : D := .tup [il o p.1, il o p.2]
instance : FzE (pieceD false) := ⟨fun p => by simp [pieceD, fzn, fzns]⟩
@[simp] theorem mL_piece {o : Bool} {ps : List (List Int × List Int)} {x y : List Int} : mL (pieceD o) ps ++ [.tup [.lst o (mL intD x), .lst o (mL intD y)]] = mL (pieceD o) (ps ++ [(x, y)]) := mL_snoc (en := pieceD o) (x := (x, y))
theorem rI_succ (i : Nat) : rI 0 (i + 1) = rI 0 i ++ [(i : Int)] := by simp [rI, List.range_succ]
theorem pcs_len (a b : Int) (ls : List Int) (i : Nat) : (pcs a b ls i).length ≤ i := by
  unfold pcs
  rw [List.length_map]
  exact Nat.le_trans (List.length_filter_le _ _) (by simp)
theorem pw_rI (lo : Int) (n : Nat) : (rI lo n).Pairwise (· < ·) := by
  unfold rI
  rw [List.pairwise_map]
  exact List.pairwise_lt_range.imp fun h => by omega
theorem first_bad (P : Nat → Prop) : ∀ n, (∀ i < n, P i) ∨ ∃ k < n, (∀ i < k, P i) ∧ ¬ P k
  | 0 => .inl fun i h => absurd h (Nat.not_lt_zero i)
  | n + 1 => by
    rcases first_bad P n with h | ⟨k, hk, h, h'⟩
    · by_cases c : P n
      · refine .inl fun i hi => ?_
        rcases Nat.lt_or_ge i n with h1 | h1
        · exact h i h1
        · rw [show i = n by omega]; exact c
      · exact .inr ⟨n, by omega, h, c⟩
    · exact .inr ⟨k, by omega, h, h'⟩
end Lw
set_option Elab.async false
set_option linter.all false
set_option maxRecDepth 100000
set_option maxHeartbeats 2000000
namespace Lw
open PySem VS
variable {K : PySem.W.Frag}
theorem fresh_ok (n : Int) (h0 : 0 ≤ n) (h1 : n ≤ 100) : m_f_fresh_labels K [intD n] = .ok (il true (rI 0 n.toNat)) [.jnk] := by
  have h2 : n ≤ 16777216 := by omega
  have e : gLr (.atm (.int n)) = some (il true (rI 0 n.toNat)) := by
    unfold gLr il
    rw [← rngD_int]
    simp [h0, h2, rngD]
  simp [m_f_fresh_labels, fnD_e, b_f_fresh_labels, e, maskD]
theorem aI_take {ls : List Int} {f : Int → Int} {i x : Nat} (hx : i ≤ x) (h : x < ls.length) : aI ((ls.take i).map f ++ ls.drop i) x = aI ls x := by
  unfold aI List.getD
  rw [List.getElem?_append_right (by simp; omega)]
  simp
  rw [Nat.min_eq_left (by omega), show i + (x - i) = x by omega]
theorem tk_set {α : Type} (f : α → α) : ∀ (ls : List α) (i : Nat) (hi : i < ls.length), (ls.take (i + 1)).map f ++ ls.drop (i + 1) = ((ls.take i).map f ++ ls.drop i).set i (f ls[i])
  | a :: ls, 0, _ => rfl
  | a :: ls, i + 1, h => by
    have := tk_set f ls i (by simpa using h)
    simp only [List.take_succ_cons, List.map_cons, List.drop_succ_cons, List.cons_append, List.set_cons_succ, List.getElem_cons_succ]
    rw [this]
theorem jn_same (ls : List Int) (x : Int) : jn ls x x = ls := by
  unfold jn
  conv => rhs; rw [← List.map_id ls]
  refine List.map_congr_left fun l _ => ?_
  simp
  exact fun h => h.symm
theorem join_ok {ls : List Int} {x y : Int} (hl : ls.length ≤ 100) (x0 : 0 ≤ x) (x1 : x < ls.length) (y0 : 0 ≤ y) (y1 : y < ls.length) :
    ∃ r : Bool, m_f_join_labels K [il true ls, intD x, intD y] = .ok (.atm (.bl r)) [il true (jn ls (aI ls x) (aI ls y)), .jnk, .jnk] := by
  have g1 := gIx_at (o := true) x0 x1
  have g2 := gIx_at (o := true) y0 y1
  obtain ⟨u, hu⟩ : ∃ u, u = aI ls x := ⟨_, rfl⟩
  obtain ⟨v, hv⟩ : ∃ v, v = aI ls y := ⟨_, rfl⟩
  rw [← hu] at g1 ⊢
  rw [← hv] at g2 ⊢
  obtain ⟨mn, hmn⟩ : ∃ mn, mn = (if v < u then v else u) := ⟨_, rfl⟩
  obtain ⟨mx, hmx⟩ : ∃ mx, mx = (if v > u then v else u) := ⟨_, rfl⟩
  by_cases hq : mn = mx
  · refine ⟨false, ?_⟩
    have huv : u = v := by rw [hmn, hmx] at hq; split at hq <;> split at hq <;> omega
    rw [huv, jn_same]
    simp [m_f_join_labels, fnD_e, b_f_join_labels, List.replicate, g1, g2, huv, maskD]
  · refine ⟨true, ?_⟩
    have L := forD_rng (g := gN 5) (b := l_f_join_labels_0 K) (lo := 0) (n := ls.length)
      (fun i => [il true ((ls.take i).map (fun l => if l = mx then mn else l) ++ ls.drop i), intD x, intD y, intD mn, intD mx, .jnk]) (fun i hi => ⟨_, rfl, by
        obtain ⟨ms, hms⟩ : ∃ ms, ms = (ls.take i).map (fun l => if l = mx then mn else l) ++ ls.drop i := ⟨_, rfl⟩
        have hml : ms.length = ls.length := by rw [hms]; simp; omega
        have e1 : aI ms i = aI ls i := by rw [hms]; exact aI_take (Nat.le_refl i) hi
        have g := gIx_at (o := true) (ls := ms) (x := i) (by omega) (by omega)
        rw [e1] at g
        have e2 : (ls.take (i + 1)).map (fun l => if l = mx then mn else l) ++ ls.drop (i + 1) = ms.set i (if aI ls i = mx then mn else aI ls i) := by
          have ai : aI ls i = ls[i] := by simp [aI, List.getD, hi]
          rw [hms, ai]
          exact tk_set (fun l => if l = mx then mn else l) ls i hi
        rw [← hms, e2]
        by_cases h : aI ls i = mx
        · have hx : L2.ixN ls.length (i : Int) = some i := by simp [L2.ixN, hi]
          simp [l_f_join_labels_0, g, h, hml, hx]
          exact mL_set
        · have : ms.set i (aI ls i) = ms := by
            have hi' : i < ms.length := by omega
            have : aI ls i = ms[i] := by rw [← e1]; simp [aI, List.getD, hi']
            rw [this, List.set_getElem_self]
          simp [l_f_join_labels_0, g, h, this]⟩) rfl
    simp only [List.take_zero, List.map_nil, List.nil_append, List.drop_zero, List.take_length, List.drop_length, List.append_nil] at L
    have r1 : ls.length ≤ 100000 := by omega
    have hj : jn ls u v = ls.map (fun l => if l = mx then mn else l) := by rw [jn, hmn, hmx]
    have hq' : ¬ (if v < u then v else u) = (if v > u then v else u) := by rw [← hmn, ← hmx]; exact hq
    have hq'' : ¬ (if v < u then v else u) = (if u < v then v else u) := hq'
    rw [hj]
    rw [hmn, hmx] at L ⊢
    simp only [gt_iff_lt] at L ⊢
    simp [m_f_join_labels, fnD_e, b_f_join_labels, List.replicate, g1, g2, hq'', maskD, r1, L]
theorem labels_ok {a b : Int} {ps : List (Int × Int)} (h : Net a b ps) : m_f_labels_of K [intD a, intD b, pl false ps] = .ok (il true (labs a b ps)) [.jnk, .jnk, .jnk] := by
  obtain ⟨a1, a8, b1, b8, _, hp, _⟩ := h
  obtain ⟨c, hc⟩ : ∃ c : Nat, (c : Int) = a + b := ⟨(a + b).toNat, by omega⟩
  have hcn : (a + b).toNat = c := by omega
  have f := fresh_ok (K := K) (a + b) (by omega) (by omega)
  rw [hcn] at f
  obtain ⟨h1, _⟩ := forD_fold (g := gT 2 (gsCons (gN 4) (gsCons (gN 5) gsNil))) (b := l_f_labels_of_0 K) (en := pairD) (stepL a) (fun ls => [intD a, intD b, pl false ps, il true ls, .jnk, .jnk]) ps (rI 0 c) (fun ls => ls.length = c) (by simp) (by
    rintro ls ⟨x, y⟩ hx hl
    obtain ⟨p1, p2, p3, p4⟩ := hp _ hx
    simp only at p1 p2 p3 p4
    obtain ⟨r, hr⟩ := join_ok (K := K) (ls := ls) (x := x) (y := a + y) (by omega) (by omega) (by omega) (by omega) (by omega)
    refine ⟨⟨[intD a, intD b, pl false ps, il true ls, intD x, intD y], by simp, ?_⟩, by simp [stepL, hl]⟩
    simp [l_f_labels_of_0, hr, stepL]) rfl
  rw [show ps.foldl (stepL a) (rI 0 c) = labs a b ps by rw [labs, hcn]] at h1
  simp [m_f_labels_of, fnD_e, b_f_labels_of, List.replicate, f, h1, maskD]
theorem aI_get {ls : List Int} {i : Nat} {x : Int} (h : ls[i]? = some x) : aI ls i = x := by simp [aI, List.getD, h]
theorem take_snoc {α : Type} {xs : List α} {i : Nat} {x : α} (h : xs[i]? = some x) : xs.take (i + 1) = xs.take i ++ [x] := by rw [List.take_succ, h]; rfl
end Lw
set_option Elab.async false
set_option linter.all false
set_option maxRecDepth 100000
set_option maxHeartbeats 2000000
namespace Lw
open PySem VS
variable {K : PySem.W.Frag}
abbrev nwA (K : PySem.W.Frag) : Addr := He.ga K "Network"
/-- a network as far as it is made -/
def nt (K : PySem.W.Frag) (o : Bool) (ns : List Str) (ds : List D) : D := .ins o (nwA K) ns ds
abbrev n2 : List Str := ["_depots", "_customers"]
abbrev n6 : List Str := ["_depots", "_customers", "_routes", "_indexes", "_labels", "_joined"]
abbrev n7 : List Str := ["_depots", "_customers", "_routes", "_indexes", "_labels", "_joined", "_loops"]
@[simp] theorem gF_dep {o : Bool} {ns : List Str} {d : D} {ds : List D} (h : fzn d = true) : gFld (He.ga K "Network") "_depots" (.ins o (He.ga K "Network") ("_depots" :: ns) (d :: ds)) = some d := by
  unfold gFld
  simp only [if_true]
  rw [show fldD "_depots" ("_depots" :: ns) (d :: ds) = some d from rfl]
  simp only [h, if_true]
@[simp] theorem gF_cus {o : Bool} {ns : List Str} {d d0 : D} {ds : List D} (h : fzn d = true) : gFld (He.ga K "Network") "_customers" (.ins o (He.ga K "Network") ("_depots" :: "_customers" :: ns) (d0 :: d :: ds)) = some d := by
  unfold gFld
  simp only [if_true]
  rw [show fldD "_customers" ("_depots" :: "_customers" :: ns) (d0 :: d :: ds) = some d from rfl]
  simp only [h, if_true]
@[simp] theorem gF_rou {o : Bool} {ns : List Str} {d d0 d1 : D} {ds : List D} (h : fzn d = true) : gFld (He.ga K "Network") "_routes" (.ins o (He.ga K "Network") ("_depots" :: "_customers" :: "_routes" :: ns) (d0 :: d1 :: d :: ds)) = some d := by
  unfold gFld
  simp only [if_true]
  rw [show fldD "_routes" ("_depots" :: "_customers" :: "_routes" :: ns) (d0 :: d1 :: d :: ds) = some d from rfl]
  simp only [h, if_true]
@[simp] theorem gF_lab {o : Bool} {ns : List Str} {d d0 d1 d2 d3 : D} {ds : List D} (h : fzn d = true) : gFld (He.ga K "Network") "_labels" (.ins o (He.ga K "Network") ("_depots" :: "_customers" :: "_routes" :: "_indexes" :: "_labels" :: ns) (d0 :: d1 :: d2 :: d3 :: d :: ds)) = some d := by
  unfold gFld
  simp only [if_true]
  rw [show fldD "_labels" ("_depots" :: "_customers" :: "_routes" :: "_indexes" :: "_labels" :: ns) (d0 :: d1 :: d2 :: d3 :: d :: ds) = some d from rfl]
  simp only [h, if_true]
@[simp] theorem depots_ok {o : Bool} {ns : List Str} {a : Int} {ds : List D} : m_f_Network_depots K [.ins o (He.ga K "Network") ("_depots" :: ns) (intD a :: ds)] = .ok (intD a) [.ins o (He.ga K "Network") ("_depots" :: ns) (intD a :: ds)] := by
  simp [m_f_Network_depots, fnD_e, b_f_Network_depots, maskD]
@[simp] theorem customers_ok {o : Bool} {ns : List Str} {b : Int} {d0 : D} {ds : List D} : m_f_Network_customers K [.ins o (He.ga K "Network") ("_depots" :: "_customers" :: ns) (d0 :: intD b :: ds)] = .ok (intD b) [.ins o (He.ga K "Network") ("_depots" :: "_customers" :: ns) (d0 :: intD b :: ds)] := by
  simp [m_f_Network_customers, fnD_e, b_f_Network_customers, maskD]
theorem size_ok {n lo hi : Int} (h : lo ≤ n) (h' : n ≤ hi) : m_f_check_size K [intD n, intD lo, intD hi] = .ok (.atm .non) [.jnk, .jnk, .jnk] := by
  have h1 : ¬ n < lo := by omega
  have h2 : ¬ hi < n := by omega
  simp [m_f_check_size, fnD_e, b_f_check_size, maskD, h1, h2]
theorem dep_ok {o : Bool} {ns : List Str} {a x : Int} {ds : List D} (h : 0 ≤ x) (h' : x < a) : m_f_check_depot K [.ins o (He.ga K "Network") ("_depots" :: ns) (intD a :: ds), intD x] = .ok (.atm .non) [.ins o (He.ga K "Network") ("_depots" :: ns) (intD a :: ds), .jnk] := by
  have h1 : ¬ x < 0 := by omega
  have h2 : ¬ a ≤ x := by omega
  simp [m_f_check_depot, fnD_e, b_f_check_depot, maskD, h1, h2]
theorem dep_er {o : Bool} {ns : List Str} {a x : Int} {ds : List D} (h : ¬ (0 ≤ x ∧ x < a)) : m_f_check_depot K [.ins o (He.ga K "Network") ("_depots" :: ns) (intD a :: ds), intD x] = .er ⟨He.ga K "NoDepot", ["depot"], [intD x]⟩ [] := by
  by_cases h1 : x < 0
  · simp [m_f_check_depot, fnD_e, b_f_check_depot, maskD, h1]
  · have h2 : a ≤ x := by omega
    simp [m_f_check_depot, fnD_e, b_f_check_depot, maskD, h1, h2]
theorem cus_ok {o : Bool} {ns : List Str} {b x : Int} {d0 : D} {ds : List D} (h : 0 ≤ x) (h' : x < b) : m_f_check_customer K [.ins o (He.ga K "Network") ("_depots" :: "_customers" :: ns) (d0 :: intD b :: ds), intD x] = .ok (.atm .non) [.ins o (He.ga K "Network") ("_depots" :: "_customers" :: ns) (d0 :: intD b :: ds), .jnk] := by
  have h1 : ¬ x < 0 := by omega
  have h2 : ¬ b ≤ x := by omega
  simp [m_f_check_customer, fnD_e, b_f_check_customer, maskD, h1, h2]
theorem size_er {n lo hi : Int} (h : ¬ (lo ≤ n ∧ n ≤ hi)) : m_f_check_size K [intD n, intD lo, intD hi] = .er ⟨He.ga K "BadSize", ["size"], [intD n]⟩ [] := by
  by_cases h1 : n < lo
  · simp [m_f_check_size, fnD_e, b_f_check_size, maskD, h1]
  · have h2 : hi < n := by omega
    simp [m_f_check_size, fnD_e, b_f_check_size, maskD, h1, h2]
theorem cus_er {o : Bool} {ns : List Str} {b x : Int} {d0 : D} {ds : List D} (h : ¬ (0 ≤ x ∧ x < b)) : m_f_check_customer K [.ins o (He.ga K "Network") ("_depots" :: "_customers" :: ns) (d0 :: intD b :: ds), intD x] = .er ⟨He.ga K "NoCustomer", ["customer"], [intD x]⟩ [] := by
  by_cases h1 : x < 0
  · simp [m_f_check_customer, fnD_e, b_f_check_customer, maskD, h1]
  · have h2 : b ≤ x := by omega
    simp [m_f_check_customer, fnD_e, b_f_check_customer, maskD, h1, h2]
end Lw
set_option Elab.async false
set_option linter.all false
set_option maxRecDepth 100000
set_option maxHeartbeats 2000000
namespace Lw
open PySem VS
variable {K : PySem.W.Frag}
theorem rI_app (lo : Int) (x y : Nat) : rI lo (x + y) = rI lo x ++ rI (lo + x) y := by
  unfold rI
  rw [List.range_add, List.map_append, List.map_map]
  congr 1
  refine List.map_congr_left fun i _ => ?_
  simp
  omega
theorem rI_shift (lo : Int) (y : Nat) : rI lo y = (rI 0 y).map (lo + ·) := by
  unfold rI
  rw [List.map_map]
  refine List.map_congr_left fun i _ => ?_
  simp
theorem enL_int (ls : List Int) : enL (mL intD ls) = mL (fun p : Int => .tup [intD p, intD (aI ls p)]) (rI 0 ls.length) := by
  unfold enL mL rI
  apply List.ext_getElem?
  intro i
  rw [List.getElem?_zipWith]
  simp only [List.getElem?_map, List.length_map]
  by_cases h : i < ls.length
  · simp [h, aI, List.getD]
  · simp [h]
theorem pieces_split {a b : Int} (ha : 0 ≤ a) (hb : 0 ≤ b) (q : Int → Bool) :
    ((rI 0 (a + b).toNat).filter q).filter (fun x => decide (x < a)) = (rI 0 a.toNat).filter q ∧
    (((rI 0 (a + b).toNat).filter q).filter (fun x => decide (a ≤ x))).map (fun x => x - a) = (rI 0 b.toNat).filter fun x => q (a + x) := by
  have e : (a + b).toNat = a.toNat + b.toNat := by omega
  rw [e, rI_app, List.filter_append, List.filter_append, List.filter_append]
  have e2 : (0 : Int) + (a.toNat : Int) = a := by omega
  rw [e2]
  have h1 : ((rI 0 a.toNat).filter q).filter (fun x => decide (x < a)) = (rI 0 a.toNat).filter q := List.filter_eq_self.mpr fun x hx => by
    have := mem_rI.mp (List.mem_filter.mp hx).1
    simp
    omega
  have h2 : ((rI a b.toNat).filter q).filter (fun x => decide (x < a)) = [] := List.filter_eq_nil_iff.mpr fun x hx => by
    have := mem_rI.mp (List.mem_filter.mp hx).1
    simp
    omega
  have h3 : ((rI 0 a.toNat).filter q).filter (fun x => decide (a ≤ x)) = [] := List.filter_eq_nil_iff.mpr fun x hx => by
    have := mem_rI.mp (List.mem_filter.mp hx).1
    simp
    omega
  have h4 : ((rI a b.toNat).filter q).filter (fun x => decide (a ≤ x)) = (rI a b.toNat).filter q := List.filter_eq_self.mpr fun x hx => by
    have := mem_rI.mp (List.mem_filter.mp hx).1
    simp
    omega
  rw [h1, h2, h3, h4, List.append_nil, List.nil_append]
  refine ⟨rfl, ?_⟩
  rw [rI_shift a b.toNat, List.filter_map, List.map_map]
  have : ((fun x => x - a) ∘ fun x => a + x) = id := by funext x; simp; omega
  rw [this, List.map_id]
  rfl
theorem pieces_ok {o : Bool} {ns : List Str} {a b : Int} {d2 d3 : D} {ls : List Int} {ds : List D} (a1 : 1 ≤ a) (a8 : a ≤ 8) (b1 : 1 ≤ b) (b8 : b ≤ 8) (hls : ls.length = (a + b).toNat) :
    m_f_Network_pieces K [.ins o (He.ga K "Network") ("_depots" :: "_customers" :: "_routes" :: "_indexes" :: "_labels" :: ns) (intD a :: intD b :: d2 :: d3 :: il false ls :: ds)] =
      .ok (.lst true (mL (pieceD true) (pcs a b ls (a + b).toNat))) [.ins o (He.ga K "Network") ("_depots" :: "_customers" :: "_routes" :: "_indexes" :: "_labels" :: ns) (intD a :: intD b :: d2 :: d3 :: il false ls :: ds)] := by
  obtain ⟨c, hc⟩ : ∃ c : Nat, (c : Int) = a + b := ⟨(a + b).toNat, by omega⟩
  have hcn : (a + b).toNat = c := by omega
  obtain ⟨N, hN⟩ : ∃ N, N = D.ins o (He.ga K "Network") ("_depots" :: "_customers" :: "_routes" :: "_indexes" :: "_labels" :: ns) (intD a :: intD b :: d2 :: d3 :: il false ls :: ds) := ⟨_, rfl⟩
  have f1 : gFld (He.ga K "Network") "_depots" N = some (intD a) := by rw [hN]; simp
  have f2 : gFld (He.ga K "Network") "_customers" N = some (intD b) := by rw [hN]; simp
  have f3 : gFld (He.ga K "Network") "_labels" N = some (il false ls) := by rw [hN]; simp
  have f4 : isJ N = false := by rw [hN]; rfl
  rw [← hN]
  have L := forD_rng (g := gN 2) (b := l_f_Network_pieces_0 K) (lo := 0) (n := c) (fun i => [N, .lst true (mL (pieceD true) (pcs a b ls i)), .jnk, .jnk, .jnk, .jnk, .jnk, .jnk]) (fun i hi => ⟨_, rfl, by
    have g1 := gIx_at (o := false) (ls := ls) (x := i) (by omega) (by omega)
    have hpl := pcs_len a b ls i
    have hpl2 : (pcs a b ls i).length < 16777216 := by omega
    by_cases hk : aI ls i = i
    · have C1 := lc_map (g := gT 2 (gsCons (gN 6) (gsCons (gN 7) gsNil))) (tt := tBl (eOp (gEq false) (eVar 7) (eVar 2))) (te := eCp 6) (vs := [6, 7]) (e0 := [N, .lst true (mL (pieceD true) (pcs a b ls i)), intD (0 + i), .jnk, .jnk, .jnk, .jnk, .jnk]) (en := fun p : Int => .tup [intD p, intD (aI ls p)]) (en' := intD)
        (rI 0 ls.length) (fun x => decide (aI ls x = i)) (fun x => x) (fun x => [N, .lst true (mL (pieceD true) (pcs a b ls i)), intD (0 + i), .jnk, .jnk, .jnk, intD x, intD (aI ls x)]) (fun x => by simp) (fun x => rfl) (fun x hx => by simp) (fun x hx _ => rfl) (by simp; omega)
      rw [← enL_int, List.map_id'] at C1
      have C2 := fun pl : List Int => lc_map (g := gN 6) (tt := tBl (eOp gLt (eVar 6) (eU (gFld (He.ga K "Network") "_depots") (eVar 0)))) (te := eCp 6) (vs := [6]) (e0 := [N, .lst true (mL (pieceD true) (pcs a b ls i)), intD (0 + i), il false pl, .jnk, .jnk, .jnk, .jnk]) (en := intD) (en' := intD)
        pl (fun x => decide (x < a)) (fun x => x) _ (fun x => rfl) (fun x => rfl) (fun x hx => by simp [f1, f4]) (fun x hx _ => rfl)
      have C3 := fun (pl : List Int) (d : D) => lc_map (g := gN 6) (tt := tBl (eOp gGe (eVar 6) (eU (gFld (He.ga K "Network") "_depots") (eVar 0)))) (te := (eOp gSub (eVar 6) (eU (gFld (He.ga K "Network") "_depots") (eVar 0)))) (vs := [6]) (e0 := [N, .lst true (mL (pieceD true) (pcs a b ls i)), intD (0 + i), il false pl, d, .jnk, .jnk, .jnk]) (en := intD) (en' := intD)
        pl (fun x => decide (a ≤ x)) (fun x => x - a) _ (fun x => rfl) (fun x => rfl) (fun x hx => by simp [f1, f4]) (fun x hx _ => by simp [f1, f4])
      obtain ⟨pl, hpl3⟩ : ∃ pl, pl = (rI 0 ls.length).filter (fun x => decide (aI ls x = i)) := ⟨_, rfl⟩
      have hplen : pl.length ≤ 16777216 := by
        have : pl.length ≤ ls.length := by rw [hpl3]; exact Nat.le_trans (List.length_filter_le _ _) (by simp)
        omega
      have C2 := C2 pl hplen
      have C3 := fun d => C3 pl d hplen
      have sp := pieces_split (a := a) (b := b) (by omega) (by omega) (fun x => decide (aI ls x = i))
      rw [show (rI 0 (a + b).toNat).filter (fun x => decide (aI ls x = i)) = pl by rw [hpl3, hls]] at sp
      rw [← hpl3] at C1
      rw [List.map_id', sp.1] at C2
      rw [sp.2] at C3
      have hs : pcs a b ls (i + 1) = pcs a b ls i ++ [((rI 0 a.toNat).filter (fun x => decide (aI ls x = i)), (rI 0 b.toNat).filter (fun x => decide (aI ls (a + x) = i)))] := by
        simp [pcs, rI_succ, hk]
      simp only [Int.zero_add] at C1 C2 C3
      simp [l_f_Network_pieces_0, g1, hk, f3, f4, C1, C2, C3, hpl2, hs]
    · have hs : pcs a b ls (i + 1) = pcs a b ls i := by simp [pcs, rI_succ, hk]
      simp [l_f_Network_pieces_0, g1, hk, hs, f3, f4]⟩) rfl
  rw [show mL (pieceD true) (pcs a b ls 0) = [] from rfl] at L
  have r1 : -100000 ≤ a + b ∧ a + b ≤ 100000 := by omega
  simp [m_f_Network_pieces, fnD_e, b_f_Network_pieces, List.replicate, f1, f2, f4, r1, hcn, L, maskD]
end Lw
set_option Elab.async false
set_option linter.all false
set_option maxRecDepth 100000
set_option maxHeartbeats 2000000
namespace Lw
open PySem VS
variable {K : PySem.W.Frag}
/-! a dict by a comprehension -/
theorem dc_map {α β : Type} {g : Gv} {tk tv : Ev} {vs : List Nat} {e0 : EnvD} {en : α → D} {en' : β → D} (e1 : α → EnvD) (ek : α → D) (key : α → List L2.Key) (f : α → β) (hg : ∀ x, g (en x) e0 = some (e1 x)) (hw : ∀ x, wipeE (e1 x) vs = e0)
    (hk : ∀ x, tk (e1 x) = .ok (.val (ek x)) (e1 x)) (hkd : ∀ x, keyD (ek x) = some (key x)) (hv : ∀ x, tv (e1 x) = .ok (.val (en' (f x))) (e1 x)) : ∀ (xs : List α) (ks : List (List L2.Key)) (acc : List D),
    (ks ++ xs.map key).Nodup → ks.length + xs.length < 16777216 → dcD g tk tv vs (mL en xs) ks acc e0 = .ok (ks ++ xs.map key, acc ++ mL en' (xs.map f)) e0
  | [], ks, acc, _, _ => by simp [dcD]
  | x :: xs, ks, acc, hn, hl => by
    simp only [List.length_cons] at hl
    rw [mL_cons]
    unfold dcD
    rw [hg x]
    simp only [hk, hv, noEr_ok, bind_ok, hkd]
    have hx : key x ∉ ks := fun z => by
      rw [List.map_cons] at hn
      have := (List.nodup_append.mp hn).2.2 _ z (key x) List.mem_cons_self
      exact this rfl
    have h1 : (ks.any fun z => decide (z = key x)) = false := by
      rw [List.any_eq_false]
      intro z hz
      simp
      rintro rfl
      exact hx hz
    have h2 : ks.length < 16777216 := by omega
    simp only [h1, h2, decide_true, Bool.not_true, Bool.or_self, Bool.false_eq_true, if_false]
    rw [hw, dc_map e1 ek key f hg hw hk hkd hv xs (ks ++ [key x]) _ (by simpa using hn) (by simp; omega)]
    simp [mL]
theorem enL_mL {α : Type} {en : α → D} (xs : List α) : enL (mL en xs) = mL (fun p : Nat × α => .tup [intD p.1, en p.2]) ((List.range xs.length).zip xs) := by
  unfold enL mL
  apply List.ext_getElem?
  intro i
  rw [List.getElem?_zipWith, List.getElem?_map, List.getElem?_map, List.length_map]
  by_cases h : i < xs.length
  · have : ((List.range xs.length).zip xs)[i]? = some (i, xs[i]) := List.getElem?_zip_eq_some.mpr ⟨by simp [h], by simp [h]⟩
    simp [h, this]
  · have : ((List.range xs.length).zip xs)[i]? = none := by rw [List.getElem?_eq_none_iff]; simp; omega
    simp [h, this]
theorem srtP_perm (ps : List (Int × Int)) : (srtP ps).Perm ps := List.mergeSort_perm _ _
theorem Net.srt {a b : Int} {ps : List (Int × Int)} (h : Net a b ps) : Net a b (srtP ps) :=
  ⟨h.a1, h.a8, h.b1, h.b8, (srtP_perm ps).nodup_iff.mpr h.nd, fun p hp => h.inr p ((srtP_perm ps).mem_iff.mp hp), by rw [(srtP_perm ps).length_eq]; exact h.len⟩
def kP (p : Int × Int) : List L2.Key := [.inl p.1, .inl p.2]
def lps (a b : Int) (ps : List (Int × Int)) : Int := ps.length - a - b + (pcs a b (labs a b (srtP ps)) (a + b).toNat).length
/-- a network that is made -/
def net (K : PySem.W.Frag) (o : Bool) (a b : Int) (ps : List (Int × Int)) : D := .ins o (He.ga K "Network") ["_depots", "_customers", "_routes", "_indexes", "_labels", "_joined", "_loops"]
  [intD a, intD b, pl false (srtP ps), .dct false ((srtP ps).map kP) (mL (fun n : Nat => intD n) (List.range (srtP ps).length)), il false (labs a b (srtP ps)), .atm (.bl (decide (maxL (labs a b (srtP ps)) = 0))), intD (lps a b ps)]
theorem init_ok {a b : Int} {ps : List (Int × Int)} (h : Net a b ps) :
    m_f_Network_init K [.ins true (He.ga K "Network") [] [], intD a, intD b, pl false ps] = .ok (.atm .non) [net K true a b ps, .jnk, .jnk, .jnk] := by
  have hs := h.srt
  have s1 := size_ok (K := K) h.a1 h.a8
  have s2 := size_ok (K := K) h.b1 h.b8
  have L := forD_map (g := gT 2 (gsCons (gN 5) (gsCons (gN 6) gsNil))) (b := l_f_Network_init_0 K) (en := pairD) (xs := ps) (fun i => [.ins true (He.ga K "Network") ["_depots", "_customers"] [intD a, intD b], intD a, intD b, pl false ps, pl true (ps.take i), .jnk, .jnk, .jnk, .jnk]) (fun i p hx => by
    obtain ⟨x, y⟩ := p
    have hi := (List.getElem?_eq_some_iff.mp hx).1
    obtain ⟨p1, p2, p3, p4⟩ := h.inr _ (List.mem_of_getElem? hx)
    simp only at p1 p2 p3 p4
    have h1 := dep_ok (K := K) (o := true) (ns := ["_customers"]) (ds := [intD b]) p1 p2
    have h2 := cus_ok (K := K) (o := true) (ns := []) (d0 := intD a) (ds := []) p3 p4
    have h3 : (x, y) ∉ ps.take i := fun z => by
      obtain ⟨j, hj, e⟩ := List.mem_iff_getElem.mp z
      rw [List.getElem_take] at e
      have hj' : j < i := by simp at hj; omega
      have e2 := (List.getElem?_eq_some_iff.mp hx).2
      have := (List.pairwise_iff_getElem.mp h.nd) j i (by omega) hi hj'
      exact this (e.trans e2.symm)
    have hmn : min i ps.length < 16777216 := by have := h.len; omega
    refine ⟨[.ins true (He.ga K "Network") ["_depots", "_customers"] [intD a, intD b], intD a, intD b, pl false ps, pl true (ps.take i), intD x, intD y, .jnk, .jnk], by simp, ?_⟩
    simp [l_f_Network_init_0, h1, h2, h3, hmn, take_snoc hx]) rfl
  simp only [List.take_zero, List.take_length, mL_nil, pl] at L
  have hlen : ¬ (16 < (ps.length : Int)) := by have := h.len; omega
  obtain ⟨qs, hqs⟩ : ∃ qs, qs = srtP ps := ⟨_, rfl⟩
  have hql : qs.length = ps.length := by rw [hqs, (srtP_perm ps).length_eq]
  have DC := dc_map (g := gT 2 (gsCons (gN 8) (gsCons (gN 7) gsNil))) (tk := eCp 7) (tv := eCp 8) (vs := [8, 7]) (e0 := [.ins true (He.ga K "Network") ["_depots", "_customers", "_routes"] [intD a, intD b, pl false qs], intD a, intD b, pl false ps, pl true ps, .jnk, .jnk, .jnk, .jnk]) (en := fun p : Nat × (Int × Int) => .tup [intD p.1, pairD p.2]) (en' := fun n : Nat => intD n)
    (fun p => [.ins true (He.ga K "Network") ["_depots", "_customers", "_routes"] [intD a, intD b, pl false qs], intD a, intD b, pl false ps, pl true ps, .jnk, .jnk, pairD p.2, intD p.1]) (fun p => pairD p.2) (fun p => kP p.2) (fun p => p.1) (fun x => by simp) (fun x => rfl) (fun x => rfl) (fun x => rfl) (fun x => rfl) ((List.range qs.length).zip qs) [] [] (by
      have : ((List.range qs.length).zip qs).map (fun p => kP p.2) = qs.map kP := by
        rw [show (fun p : Nat × (Int × Int) => kP p.2) = kP ∘ Prod.snd from rfl, ← List.map_map, List.map_snd_zip (by simp)]
      rw [List.nil_append, this]
      refine List.Pairwise.map _ (fun x y hxy => ?_) (hqs ▸ hs.nd)
      intro z
      apply hxy
      simp [kP] at z
      exact Prod.ext z.1 z.2) (by simp; have := h.len; omega)
  rw [← enL_mL, List.nil_append, List.nil_append, show (fun p : Nat × (Int × Int) => kP p.2) = kP ∘ Prod.snd from rfl, ← List.map_map, List.map_snd_zip (by simp), show (fun p : Nat × (Int × Int) => p.1) = Prod.fst from rfl, List.map_fst_zip (by simp)] at DC
  have hlb := labels_ok (K := K) (hqs ▸ hs : Net a b qs)
  have hpc := pieces_ok (K := K) (o := true) (ns := ["_joined"]) (a := a) (b := b) (d2 := pl false qs) (d3 := .dct false (qs.map kP) (mL (fun n : Nat => intD n) (List.range qs.length))) (ls := labs a b qs) (ds := [.atm (.bl (decide (maxL (labs a b qs) = 0)))]) h.a1 h.a8 h.b1 h.b8 (by simp)
  have hmx : gMaxL [il false (labs a b qs)] = some (.atm (.int (maxL (labs a b qs)))) := by
    unfold gMaxL
    have e : asInts (mL intD (labs a b qs)) = some (labs a b qs) := asInts_int _
    have e2 : (labs a b qs).length = (a + b).toNat := by simp
    simp only [e]
    cases e3 : labs a b qs with
    | nil => rw [e3] at e2; have := h.a1; have := h.b1; simp at e2; omega
    | cons x xs => rfl
  have hfz : fzs (mL (fun n : Nat => intD n) (List.range qs.length)) = mL (fun n : Nat => intD n) (List.range qs.length) := fzs_id _ (fzns_mL' _ (fun _ => rfl) _)
  have hfzd : ∀ (ks : List (List L2.Key)) (ds : List D), fz (.dct true ks ds) = .dct false ks (fzs ds) := fun _ _ => rfl
  simp [m_f_Network_init, fnD_e, b_f_Network_init, List.replicate, s1, s2, L, hlen, ← hqs, DC, hfz, hfzd, hlb, hmx, hpc, maskD, net, lps]
end Lw
set_option Elab.async false
set_option linter.all false
set_option maxRecDepth 100000
set_option maxHeartbeats 2000000
namespace Lw
open PySem VS
variable {K : PySem.W.Frag}
/-- frozen plain data of a small depth, equal to itself by the law's own test -/
inductive Pl : Nat → D → Prop where
  | non (k : Nat) : Pl k (.atm .non)
  | bl (k : Nat) (b : Bool) : Pl k (.atm (.bl b))
  | int (k : Nat) (i : Int) : Pl k (.atm (.int i))
  | str (k : Nat) (s : Str) (h : PyData.strOk s = true) : Pl k (.atm (.str s))
  | lst (k : Nat) (ds : List D) (hm : ds.length ≤ 1000) (hf : fzns ds = true) (h : ∀ d ∈ ds, Pl k d) : Pl (k + 1) (.lst false ds)
  | tup (k : Nat) (ds : List D) (hm : ds.length ≤ 1000) (hf : fzns ds = true) (h : ∀ d ∈ ds, Pl k d) : Pl (k + 1) (.tup ds)
theorem gEq_bl (b c : Bool) : gEq false (.atm (.bl b)) (.atm (.bl c)) = some (.atm (.bl (decide (b = c)))) := by cases b <;> cases c <;> rfl
theorem same_loop {h : Fv} {T : D} {ds : List D} (hj : isJ T = false) (hD : ∀ (i : Nat) d, ds[i]? = some d → gIx T (.atm (.int (i : Int))) = some d)
    (IH : ∀ d ∈ ds, h [d, d] = .ok (.atm (.bl true)) [.jnk, .jnk]) :
    forD (gN 2) (l_f__law_same_0 K h) (rngD 0 ds.length) [T, T, .jnk] = .ok .nx [T, T, .jnk] := by
  exact forD_rng (g := gN 2) (b := l_f__law_same_0 K h) (lo := 0) (n := ds.length) (fun i => [T, T, .jnk]) (fun i hi => ⟨_, rfl, by
    have hd : ds[i]? = some ds[i] := List.getElem?_eq_getElem hi
    have ih := IH _ (List.getElem_mem hi)
    have g := hD i _ hd
    generalize ds[i] = d at *
    simp [l_f__law_same_0, hj, g, ih]⟩) rfl
theorem same_ok : ∀ (k : Nat) (d : D), Pl k d → m_f__law_sameR K (k + 1) [d, d] = .ok (.atm (.bl true)) [.jnk, .jnk] := by
  intro k d s
  induction s with
  | non k => simp [m_f__law_sameR, fnD_e, b_f__law_same, List.replicate, maskD]
  | bl k b => simp [m_f__law_sameR, fnD_e, b_f__law_same, List.replicate, maskD, gEq_bl]
  | int k i => simp [m_f__law_sameR, fnD_e, b_f__law_same, List.replicate, maskD]
  | str k x h => simp [m_f__law_sameR, fnD_e, b_f__law_same, List.replicate, maskD, gEq_str (shaped_str h) (shaped_str h)]
  | lst k ds hm hf h ih =>
    have L := same_loop (K := K) (h := m_f__law_sameR K (k + 1)) (T := .lst false ds) (ds := ds) rfl (fun i d hd => gIx_lst (by have := (List.getElem?_eq_some_iff.mp hd).1; omega) (by simpa using hd) (fzns_get hf hd)) ih
    have r : ds.length ≤ 100000 := by omega
    show fnD [] 2 3 (b_f__law_same K (m_f__law_sameR K (k + 1))) [.lst false ds, .lst false ds] = _
    generalize m_f__law_sameR K (k + 1) = mr at *
    simp [fnD_e, b_f__law_same, List.replicate, maskD, r, L]
  | tup k ds hm hf h ih =>
    have L := same_loop (K := K) (h := m_f__law_sameR K (k + 1)) (T := .tup ds) (ds := ds) rfl (fun i d hd => gIx_tup (by have := (List.getElem?_eq_some_iff.mp hd).1; omega) (by simpa using hd) (fzns_get hf hd)) ih
    have r : ds.length ≤ 100000 := by omega
    show fnD [] 2 3 (b_f__law_same K (m_f__law_sameR K (k + 1))) [.tup ds, .tup ds] = _
    generalize m_f__law_sameR K (k + 1) = mr at *
    simp [fnD_e, b_f__law_same, List.replicate, maskD, r, L]
/-! written forms -/
def sp2 (p : Int × Int) : Str := Str.empty ++ (" " : Str) ++ strI p.1 ++ ("-" : Str) ++ strI p.2
def hd2 (a b : Int) : Str := Str.empty ++ strI a ++ (" x " : Str) ++ strI b ++ (":" : Str)
def wrt (a b : Int) (ps : List (Int × Int)) : Str := ps.foldl (fun o p => o ++ (" " : Str) ++ strI p.1 ++ ("-" : Str) ++ strI p.2) (strI a ++ (" x " : Str) ++ strI b ++ (":" : Str))
@[simp] theorem emp_app (x : Str) : Str.empty ++ x = x := by
  cases x with
  | mk c => show Str.mk (#[] ++ c) = Str.mk c; simp
@[simp] theorem app_emp (x : Str) : x ++ Str.empty = x := by
  cases x with
  | mk c => show Str.mk (c ++ #[]) = Str.mk c; simp
theorem app_as (a b c : Str) : a ++ b ++ c = a ++ (b ++ c) := PySem.Str.append_assoc a b c
theorem wrt_eq (o : Str) : ∀ ps : List (Int × Int), ps.foldl (fun o p => o ++ (" " : Str) ++ strI p.1 ++ ("-" : Str) ++ strI p.2) o = o ++ (ps.map sp2).foldr (· ++ ·) Str.empty
  | [] => by simp
  | p :: ps => by
    rw [List.foldl_cons, wrt_eq _ ps, List.map_cons, List.foldr_cons, sp2]
    simp only [emp_app, app_as]
theorem small_len {i : Int} (h : -100 ≤ i ∧ i ≤ 100) : (strI i).length ≤ 4 := by
  have : ∀ n : Fin 201, (strI ((n.val : Int) - 100)).length ≤ 4 := by decide +kernel
  have h2 := this ⟨(i + 100).toNat, by omega⟩
  have e : ((i + 100).toNat : Int) - 100 = i := by omega
  rw [e] at h2
  exact h2
theorem sok_strI (i : Int) : PyData.strOk (strI i) = true := sok_of _
theorem wrt_ok (a b : Int) (ps : List (Int × Int)) : PyData.strOk (wrt a b ps) = true := by
  unfold wrt
  have key : ∀ (ps : List (Int × Int)) (o : Str), PyData.strOk o = true → PyData.strOk (ps.foldl (fun o p => o ++ (" " : Str) ++ strI p.1 ++ ("-" : Str) ++ strI p.2) o) = true := by
    intro ps
    induction ps with
    | nil => exact fun o h => h
    | cons p ps ih =>
      intro o h
      rw [List.foldl_cons]
      refine ih _ ?_
      simp only [sok_app, h, sok_strI, sok_of, Bool.and_self]
  exact key ps _ (by simp only [sok_app, sok_strI, sok_of, Bool.and_self])
end Lw
set_option Elab.async false
set_option linter.all false
set_option maxRecDepth 100000
set_option maxHeartbeats 2000000
namespace Lw
open PySem VS
variable {K : PySem.W.Frag}
/-! labels: each is its own least place -/
def LabI (ls : List Int) : Prop := ∀ k : Nat, k < ls.length → 0 ≤ aI ls k ∧ aI ls k ≤ k ∧ aI ls (aI ls k) = aI ls k
theorem aI_map {ls : List Int} {f : Int → Int} {k : Int} (h : k.toNat < ls.length) : aI (ls.map f) k = f (aI ls k) := by
  simp [aI, List.getD, h]
theorem labI_jn {ls : List Int} (h : LabI ls) {i j : Nat} (hi : i < ls.length) (hj : j < ls.length) : LabI (jn ls (aI ls i) (aI ls j)) := by
  obtain ⟨i0, i1, i2⟩ := h i hi
  obtain ⟨j0, j1, j2⟩ := h j hj
  obtain ⟨x, hx⟩ : ∃ x, x = aI ls i := ⟨_, rfl⟩
  obtain ⟨y, hy⟩ : ∃ y, y = aI ls j := ⟨_, rfl⟩
  rw [← hx] at i0 i1 i2 ⊢
  rw [← hy] at j0 j1 j2 ⊢
  obtain ⟨mx, hmx⟩ : ∃ mx, mx = (if y > x then y else x) := ⟨_, rfl⟩
  obtain ⟨mn, hmn⟩ : ∃ mn, mn = (if y < x then y else x) := ⟨_, rfl⟩
  have hle : 0 ≤ mn ∧ mn ≤ mx ∧ mx ≤ (ls.length : Int) - 1 := by rw [hmx, hmn]; split <;> split <;> omega
  have rn : aI ls mn = mn := by rw [hmn]; split <;> assumption
  have ej : jn ls x y = ls.map (fun l => if l = mx then mn else l) := by rw [jn, hmx, hmn]
  rw [ej]
  intro k hk
  rw [List.length_map] at hk
  obtain ⟨k0, k1, k2⟩ := h k hk
  rw [aI_map (by simpa using hk)]
  by_cases c : aI ls k = mx
  · rw [if_pos c]
    refine ⟨hle.1, by omega, ?_⟩
    rw [aI_map (by omega), rn]
    split
    · rfl
    · rfl
  · rw [if_neg c]
    refine ⟨k0, k1, ?_⟩
    rw [aI_map (by omega), k2, if_neg c]
theorem aI_rI {n : Nat} {k : Int} (h0 : 0 ≤ k) (h : k < n) : aI (rI 0 n) k = k := by
  have hk : k.toNat < n := by omega
  have := rI_get (lo := 0) hk
  unfold aI List.getD
  rw [this]
  simp
  omega
theorem labI_rI (n : Nat) : LabI (rI 0 n) := by
  intro k hk
  rw [rI_len] at hk
  have e := aI_rI (n := n) (k := (k : Int)) (by omega) (by omega)
  rw [e]
  exact ⟨by omega, Int.le_refl _, e⟩
theorem labI_fold {a b : Int} : ∀ (ps : List (Int × Int)) (ls : List Int), LabI ls → ls.length = (a + b).toNat → (∀ p ∈ ps, PR a b p) → LabI (ps.foldl (stepL a) ls)
  | [], ls, h, _, _ => h
  | p :: ps, ls, h, hl, hp => by
    rw [List.foldl_cons]
    obtain ⟨p1, p2, p3, p4⟩ := hp p List.mem_cons_self
    refine labI_fold ps _ ?_ (by rw [stepL, jn_len, hl]) fun q hq => hp q (List.mem_cons_of_mem _ hq)
    unfold stepL
    have e1 : p.1 = (p.1.toNat : Int) := by omega
    have e2 : a + p.2 = ((a + p.2).toNat : Int) := by omega
    rw [e1, e2]
    exact labI_jn h (by omega) (by omega)
theorem labI_labs {a b : Int} {ps : List (Int × Int)} (h : Net a b ps) : LabI (labs a b ps) := labI_fold ps _ (labI_rI _) (by simp) h.inr
/-- the roots -/
def roots (ls : List Int) : List Int := (rI 0 ls.length).filter fun k => decide (aI ls k = k)
theorem maxL_le {ns : List Int} {b : Int} (hn : ns ≠ []) (h : ∀ y ∈ ns, y ≤ b) : maxL ns ≤ b := by
  induction ns with
  | nil => exact absurd rfl hn
  | cons n ns ih =>
    cases ns with
    | nil => exact h n List.mem_cons_self
    | cons m ms =>
      show max n (maxL (m :: ms)) ≤ b
      have h1 := h n List.mem_cons_self
      have h2 := ih (by simp) fun y hy => h y (List.mem_cons_of_mem _ hy)
      omega
theorem joined_iff {ls : List Int} (h : LabI ls) (h0 : 0 < ls.length) : decide (maxL ls = 0) = decide (((roots ls).length : Int) = 1) := by
  have r0 : aI ls 0 = 0 := by
    have := h 0 h0
    have h1 : aI ls ((0 : Nat) : Int) = aI ls 0 := rfl
    omega
  have hm : ∀ k : Nat, k < ls.length → aI ls k ∈ ls := fun k hk => by
    have : aI ls k = ls[k] := by simp [aI, List.getD, hk]
    rw [this]
    exact List.getElem_mem hk
  obtain ⟨n, hn⟩ : ∃ n, ls.length = n + 1 := ⟨ls.length - 1, by omega⟩
  have hr : roots ls = 0 :: ((rI 1 n).filter fun k => decide (aI ls k = k)) := by
    unfold roots
    have : rI 0 ls.length = 0 :: rI 1 n := by
      rw [hn]
      unfold rI
      rw [List.range_succ_eq_map, List.map_cons, List.map_map]
      congr 1
      refine List.map_congr_left fun i _ => ?_
      simp
      omega
    rw [this, List.filter_cons, if_pos (by simpa using r0)]
  rw [hr, List.length_cons]
  rw [decide_eq_decide]
  constructor
  · intro hx
    have : ((rI 1 n).filter fun k => decide (aI ls k = k)) = [] := List.filter_eq_nil_iff.mpr fun k hk => by
      have hk := mem_rI.mp hk
      have hkn : k.toNat < ls.length := by omega
      have e : ((k.toNat : Nat) : Int) = k := by omega
      have h1 := maxL_ge (hm k.toNat hkn)
      rw [e] at h1
      simp
      omega
    rw [this]
    rfl
  · intro hx
    have hnil : ((rI 1 n).filter fun k => decide (aI ls k = k)) = [] := by
      apply List.eq_nil_of_length_eq_zero
      omega
    have all0 : ∀ y ∈ ls, y = 0 := by
      intro y hy
      obtain ⟨k, hk, rfl⟩ := List.getElem_of_mem hy
      have e1 : aI ls k = ls[k] := by simp [aI, List.getD, hk]
      obtain ⟨k0, k1, k2⟩ := h k hk
      rw [e1] at k0 k1 k2
      apply Classical.byContradiction
      intro hne
      have := List.filter_eq_nil_iff.mp hnil ls[k] (mem_rI.mpr (by omega))
      simp [k2] at this
    have h1 : maxL ls ≤ 0 := maxL_le (fun z => by rw [z] at h0; simp at h0) fun y hy => by rw [all0 y hy]; exact Int.le_refl _
    have h2 := maxL_ge (hm 0 h0)
    have h3 : aI ls ((0 : Nat) : Int) = aI ls 0 := rfl
    omega
theorem pcs_roots {a b : Int} {ls : List Int} {n : Nat} (h : ls.length = n) : (pcs a b ls n).length = (roots ls).length := by
  unfold pcs roots
  rw [List.length_map, h]
/-! sorting pairs -/
theorem leP_total (p q : Int × Int) : (leP p q || leP q p) = true := by
  unfold leP
  by_cases h : p.1 < q.1 <;> by_cases h' : q.1 < p.1 <;> by_cases h2 : p.2 ≤ q.2 <;> by_cases h3 : q.2 ≤ p.2 <;> simp [*] <;> omega
end Lw
set_option Elab.async false
set_option linter.all false
set_option maxRecDepth 100000
set_option maxHeartbeats 2000000
namespace Lw
open PySem VS
variable {K : PySem.W.Frag}
theorem app_le {x y : Str} {n m : Nat} (h : x.length ≤ n) (k : y.length ≤ m) : (x ++ y).length ≤ n + m := by
  rw [len_app]
  omega
theorem fj1 {rest : Str → Jv} {acc y : Str} {e : EnvD} (h : (acc ++ y).length ≤ 10000) : kJ3 rest acc (some y) e = rest (acc ++ y) e := by
  rw [kJ3_ok, if_pos (by omega)]
theorem fmt_s {y : Str} (h : y.length ≤ 10000) : fmtD (.atm (.str y)) = some y := fmt_str (by omega)
theorem fj_ok {x y : Int} (hx : 0 ≤ x ∧ x ≤ 8) (hy : 0 ≤ y ∧ y ≤ 8) (N r : D) : jCons (eC (.str " ")) (jCons (eVar 2) (jCons (eC (.str "-")) (jCons (eVar 3) jNil))) Str.empty [N, r, intD x, intD y] = .ok (sp2 (x, y)) [N, r, intD x, intD y] := by
  have l0 : (" " : Str).length ≤ 1 := by decide +kernel
  have l1 : ("-" : Str).length ≤ 1 := by decide +kernel
  have lx := small_len (i := x) (by omega)
  have ly := small_len (i := y) (by omega)
  have e0 : (Str.empty : Str).length ≤ 0 := by decide +kernel
  have c1 := app_le e0 l0
  have c2 := app_le c1 lx
  have c3 := app_le c2 l1
  have c4 := app_le c3 ly
  have f1 := fmt_s (y := " ") (by omega)
  have f2 := fmt_s (y := "-") (by omega)
  have f3 := fmt_int (i := x) (by omega)
  have f4 := fmt_int (i := y) (by omega)
  have d1 : (Str.empty ++ (" " : Str)).length ≤ 16777216 := by omega
  have d2 : (Str.empty ++ (" " : Str) ++ strI x).length ≤ 16777216 := by omega
  have d3 : (Str.empty ++ (" " : Str) ++ strI x ++ ("-" : Str)).length ≤ 16777216 := by omega
  have d4 : (Str.empty ++ (" " : Str) ++ strI x ++ ("-" : Str) ++ strI y).length ≤ 16777216 := by omega
  rw [emp_app] at d1 d2 d3 d4
  simp [f1, f2, f3, f4, d1, d2, d3, d4, sp2]
theorem fz_nats (xs : List Nat) : fzns (mL (fun n : Nat => intD n) xs) = true := fzns_mL' _ (fun _ => rfl) _
theorem net_fzn {a b : Int} {ps : List (Int × Int)} : fzn (net K false a b ps) = true := by
  unfold net
  have : ∀ (o : Bool) (ks : List (List L2.Key)) (ds : List D), fzn (.dct o ks ds) = (!o && fzns ds) := fun _ _ _ => rfl
  simp [this, fz_nats]
theorem net_fz {a b : Int} {ps : List (Int × Int)} : fz (net K true a b ps) = net K false a b ps := by
  unfold net
  have : ∀ (o : Bool) (ks : List (List L2.Key)) (ds : List D), fz (.dct o ks ds) = .dct false ks (fzs ds) := fun _ _ _ => rfl
  simp [this, fzs_id _ (fz_nats _)]
/-- what the law's code sees of a network that is made -/
structure NetO (K : PySem.W.Frag) (o : Bool) (N : D) (a b : Int) (qs : List (Int × Int)) (lp : Int) (jd : Bool) : Prop where
  ins : ∃ ns ds, N = .ins o (He.ga K "Network") ns ds
  jn : isJ N = false
  dep : m_f_Network_depots K [N] = .ok (intD a) [N]
  cus : m_f_Network_customers K [N] = .ok (intD b) [N]
  fd : gFld (He.ga K "Network") "_depots" N = some (intD a)
  fc : gFld (He.ga K "Network") "_customers" N = some (intD b)
  fr : gFld (He.ga K "Network") "_routes" N = some (pl false qs)
  fl : gFld (He.ga K "Network") "_loops" N = some (intD lp)
  fj : gFld (He.ga K "Network") "_joined" N = some (.atm (.bl jd))
theorem gF_any {C : Addr} {o : Bool} {f : Str} {ns : List Str} {ds : List D} {d : D} (h : fldD f ns ds = some d) (hf : fzn d = true) : gFld C f (.ins o C ns ds) = some d := by
  unfold gFld
  simp only [if_true, h, hf]
theorem netO {o : Bool} {a b : Int} {ps : List (Int × Int)} : NetO K o (net K o a b ps) a b (srtP ps) (lps a b ps) (decide (maxL (labs a b (srtP ps)) = 0)) where
  ins := ⟨_, _, rfl⟩
  jn := rfl
  dep := depots_ok
  cus := customers_ok
  fd := gF_any rfl rfl
  fc := gF_any rfl rfl
  fr := gF_any rfl (by simp)
  fl := gF_any rfl rfl
  fj := gF_any rfl rfl
theorem NetO.kp {o : Bool} {N : D} {a b lp : Int} {qs : List (Int × Int)} {jd : Bool} (h : NetO K o N a b qs lp jd) (g : Fv) (ro : R) (e : EnvD) : kProp2 (He.ga K "Network") g ro (some ([N], e)) = kProp3 ro e (g [N]) := by
  obtain ⟨ns, ds, rfl⟩ := h.ins
  show (if _ then _ else _) = _
  rw [if_pos rfl]
theorem NetO.io {o : Bool} {N : D} {a b lp : Int} {qs : List (Int × Int)} {jd : Bool} (h : NetO K o N a b qs lp jd) : gIsO (He.ga K "Network") N = some (.atm (.bl true)) := by
  obtain ⟨ns, ds, rfl⟩ := h.ins
  exact gIsO_ok
theorem NetO.rou {o : Bool} {N : D} {a b lp : Int} {qs : List (Int × Int)} {jd : Bool} (h : NetO K o N a b qs lp jd) : m_f_Network_routes K [N] = .ok (pl true qs) [N] := by
  simp [m_f_Network_routes, fnD_e, b_f_Network_routes, List.replicate, h.jn, h.fr, maskD]
theorem NetO.lop {o : Bool} {N : D} {a b lp : Int} {qs : List (Int × Int)} {jd : Bool} (h : NetO K o N a b qs lp jd) : m_f_Network_loops K [N] = .ok (intD lp) [N] := by
  simp [m_f_Network_loops, fnD_e, b_f_Network_loops, List.replicate, h.jn, h.fl, maskD]
theorem NetO.joi {o : Bool} {N : D} {a b lp : Int} {qs : List (Int × Int)} {jd : Bool} (h : NetO K o N a b qs lp jd) : m_f_Network_joined K [N] = .ok (.atm (.bl jd)) [N] := by
  simp [m_f_Network_joined, fnD_e, b_f_Network_joined, List.replicate, h.jn, h.fj, maskD]
/-! its text -/
theorem NetO.txt {N : D} {a b lp : Int} {qs : List (Int × Int)} {jd : Bool} (h : NetO K false N a b qs lp jd) (ha : 0 ≤ a ∧ a ≤ 8) (hb : 0 ≤ b ∧ b ≤ 8) (hq : ∀ p ∈ qs, PR a b p) (hl : qs.length ≤ 16) (hf : fzn N = true) : m_f_Network_str K [N] = .ok (.atm (.str (wrt a b qs))) [.jnk] := by
  have C := lc_all (g := gT 2 (gsCons (gN 2) (gsCons (gN 3) gsNil))) (te := eJs (jCons (eC (.str " ")) (jCons (eVar 2) (jCons (eC (.str "-")) (jCons (eVar 3) jNil))))) (vs := [2, 3]) (e0 := [N, .jnk, .jnk, .jnk]) (en := pairD) (en' := fun y : Str => .atm (.str y))
    qs sp2 (fun p => [N, .jnk, intD p.1, intD p.2]) (fun ⟨x, y⟩ => by simp) (fun x => rfl) (fun ⟨x, y⟩ hx => by
      obtain ⟨p1, p2, p3, p4⟩ := hq _ hx
      simp only at p1 p2 p3 p4
      rw [eJs_e, fj_ok (by omega) (by omega), kJs_ok]) (by omega)
  have sl : ∀ p ∈ qs, (sp2 p).length ≤ 10 := fun ⟨x, y⟩ hx => by
    obtain ⟨p1, p2, p3, p4⟩ := hq _ hx
    simp only at p1 p2 p3 p4
    have l0 : (" " : Str).length ≤ 1 := by decide +kernel
    have l1 : ("-" : Str).length ≤ 1 := by decide +kernel
    have e0 : (Str.empty : Str).length ≤ 0 := by decide +kernel
    exact app_le (app_le (app_le (app_le e0 l0) (small_len (i := x) (by omega))) l1) (small_len (i := y) (by omega))
  have sm : ∀ xs : List (Int × Int), (∀ p ∈ xs, (sp2 p).length ≤ 10) → ((xs.map sp2).map (·.length)).sum ≤ 10 * xs.length := by
    intro xs
    induction xs with
    | nil => intro _; simp
    | cons x xs ih =>
      intro hx
      have h1 := hx x List.mem_cons_self
      have h2 := ih fun p hp => hx p (List.mem_cons_of_mem _ hp)
      simp only [List.map_cons, List.sum_cons, List.length_cons]
      omega
  have sm1 := sm qs sl
  have jl : ∀ xs : List (Int × Int), (∀ p ∈ xs, (sp2 p).length ≤ 10) → ((xs.map sp2).foldr (· ++ ·) Str.empty).length ≤ 10 * xs.length := by
    intro xs
    induction xs with
    | nil => intro _; exact Nat.le_refl 0
    | cons x xs ih =>
      intro hx
      have h1 := hx x List.mem_cons_self
      have h2 := ih fun p hp => hx p (List.mem_cons_of_mem _ hp)
      simp only [List.map_cons, List.foldr_cons, List.length_cons]
      have := app_le h1 h2
      omega
  have jl1 := jl qs sl
  have J : gJoin "" (.lst true (mL (fun y : Str => .atm (.str y)) (qs.map sp2))) = some (.atm (.str ((qs.map sp2).foldr (· ++ ·) Str.empty))) := by
    have e : (Str.ofString "" : Str) = Str.empty := by decide +kernel
    have z : (Str.empty : Str).length = 0 := by decide +kernel
    refine (gJoin_str (sep := "") (o := true) (ds := (qs.map sp2).map fun y => .atm (.str y)) (ys := qs.map sp2) (strsD_map _) ?_).trans ?_
    · rw [e, z]
      omega
    · rw [e, join_empty]
  obtain ⟨tx, htx⟩ : ∃ tx, tx = (qs.map sp2).foldr (· ++ ·) Str.empty := ⟨_, rfl⟩
  rw [← htx] at J jl1
  have lx := small_len (i := a) (by omega)
  have ly := small_len (i := b) (by omega)
  have l2 : (" x " : Str).length ≤ 3 := by decide +kernel
  have l3 : (":" : Str).length ≤ 1 := by decide +kernel
  have c2 := app_le lx l2
  have c3 := app_le c2 ly
  have c4 := app_le c3 l3
  have c5 := app_le c4 jl1
  have f1 := fmt_int (i := a) (by omega)
  have f2 := fmt_int (i := b) (by omega)
  have f3 := fmt_s (y := " x ") (by omega)
  have f4 := fmt_s (y := ":") (by omega)
  have f5 := fmt_s (y := tx) (by omega)
  have d1 : (strI a).length ≤ 16777216 := by omega
  have d2 : (strI a ++ (" x " : Str)).length ≤ 16777216 := by omega
  have d3 : (strI a ++ (" x " : Str) ++ strI b).length ≤ 16777216 := by omega
  have d4 : (strI a ++ (" x " : Str) ++ strI b ++ (":" : Str)).length ≤ 16777216 := by omega
  have d5 : (strI a ++ (" x " : Str) ++ strI b ++ (":" : Str) ++ tx).length ≤ 16777216 := by omega
  have w : wrt a b qs = strI a ++ (" x " : Str) ++ strI b ++ (":" : Str) ++ tx := by rw [wrt, wrt_eq, htx]
  rw [w]
  simp [m_f_Network_str, fnD_e, b_f_Network_str, List.replicate, h.jn, h.fd, h.fc, h.fr, C, J, f1, f2, f3, f4, f5, d1, d2, d3, d4, d5, maskD]
/-! the due text -/
theorem written_ok {a b : Int} {qs : List (Int × Int)} (ha : 0 ≤ a ∧ a ≤ 8) (hb : 0 ≤ b ∧ b ≤ 8) (hq : ∀ p ∈ qs, PR a b p) (hl : qs.length ≤ 16) : m_f__law_written K [.tup [intD a, intD b], pl false qs] = .ok (.atm (.str (wrt a b qs))) [.jnk, .jnk] := by
  have lx := small_len (i := a) (by omega)
  have ly := small_len (i := b) (by omega)
  have l0 : (" " : Str).length ≤ 1 := by decide +kernel
  have l1 : ("-" : Str).length ≤ 1 := by decide +kernel
  have l2 : (" x " : Str).length ≤ 3 := by decide +kernel
  have l3 : (":" : Str).length ≤ 1 := by decide +kernel
  have g1 := gStr_int (os := []) (i := a) (by omega)
  have g2 := gStr_int (os := []) (i := b) (by omega)
  have c2 := app_le lx l2
  have c3 := app_le c2 ly
  have c4 := app_le c3 l3
  have L := forD_foldN (g := gN 3) (b := l_f__law_written_0 K) (en := pairD) (fun o p => o ++ (" " : Str) ++ strI p.1 ++ ("-" : Str) ++ strI p.2) (fun o => [.tup [intD a, intD b], pl false qs, .atm (.str o), .jnk]) qs (strI a ++ (" x " : Str) ++ strI b ++ (":" : Str)) (fun n o => o.length ≤ 20 + 10 * n) 0 (by omega) (by
    rintro n o ⟨x, y⟩ hx hn hs
    obtain ⟨p1, p2, p3, p4⟩ := hq _ hx
    simp only at p1 p2 p3 p4
    have lx := small_len (i := x) (by omega)
    have ly := small_len (i := y) (by omega)
    have g1 := gStr_int (os := []) (i := x) (by omega)
    have g2 := gStr_int (os := []) (i := y) (by omega)
    have k1 := app_le hs l0
    have k2 := app_le k1 lx
    have k3 := app_le k2 l1
    have k4 := app_le k3 ly
    refine ⟨⟨_, rfl, ?_⟩, by simp only; omega⟩
    rw [len_app] at k1
    rw [len_app] at k2
    rw [len_app] at k3
    rw [len_app] at k4
    have q1 : o.length + (" " : Str).length ≤ 16777216 := by omega
    have q2 : (o ++ (" " : Str)).length + (strI x).length ≤ 16777216 := by omega
    have q3 : (o ++ (" " : Str) ++ strI x).length + ("-" : Str).length ≤ 16777216 := by omega
    have q4 : (o ++ (" " : Str) ++ strI x ++ ("-" : Str)).length + (strI y).length ≤ 16777216 := by omega
    simp [l_f__law_written_0, g1, g2, q1, q2, q3, q4]) rfl
  have L := L.1
  rw [len_app] at c2
  rw [len_app] at c3
  rw [len_app] at c4
  have q1 : (strI a).length + (" x " : Str).length ≤ 16777216 := by omega
  have q2 : (strI a ++ (" x " : Str)).length + (strI b).length ≤ 16777216 := by omega
  have q3 : (strI a ++ (" x " : Str) ++ strI b).length + (":" : Str).length ≤ 16777216 := by omega
  have w : qs.foldl (fun o p => o ++ (" " : Str) ++ strI p.1 ++ ("-" : Str) ++ strI p.2) (strI a ++ (" x " : Str) ++ strI b ++ (":" : Str)) = wrt a b qs := rfl
  rw [w] at L
  simp [m_f__law_written, fnD_e, b_f__law_written, List.replicate, g1, g2, q1, q2, q3, L, maskD]
end Lw
set_option Elab.async false
set_option linter.all false
set_option maxRecDepth 100000
set_option maxHeartbeats 2000000
namespace Lw
open PySem VS
theorem forD_c1 {g : Gv} {b : Sv} {d : D} {ds : List D} {e e1 e2 : EnvD} (hg : g d e = some e1) (hb : b e1 = .ok .nx e2) : forD g b (d :: ds) e = forD g b ds e2 := by
  show (match g d e with | none => _ | some e1 => _) = _
  rw [hg]
  show (b e1).bind _ = _
  rw [hb]
  rfl
/-- a loop each turn of which appends some things to a list -/
theorem forD_flat {α : Type} {g : Gv} {b : Sv} {en : α → D} (F : α → List D) (st : List D → EnvD) (M : Nat) : ∀ (xs : List α) (acc : List D),
    (∀ x ∈ xs, ∀ acc : List D, acc.length + (F x).length ≤ M → ∃ e1, g (en x) (st acc) = some e1 ∧ b e1 = .ok .nx (st (acc ++ F x))) → acc.length + (xs.flatMap F).length ≤ M →
    forD g b (mL en xs) (st acc) = .ok .nx (st (acc ++ xs.flatMap F))
  | [], acc, _, _ => by simp
  | x :: xs, acc, h, hl => by
    rw [List.flatMap_cons, List.length_append] at hl
    obtain ⟨e1, h1, h2⟩ := h x List.mem_cons_self acc (by omega)
    rw [mL_cons, forD_c1 h1 h2, forD_flat F st M xs _ (fun y hy => h y (List.mem_cons_of_mem _ hy)) (by rw [List.length_append]; omega)]
    rw [List.flatMap_cons, List.append_assoc]
end Lw
set_option Elab.async false
set_option linter.all false
set_option maxRecDepth 100000
set_option maxHeartbeats 2000000
namespace Lw
open PySem VS
variable {K : PySem.W.Frag}
theorem gStr_net {N : D} {g : Fv} {x : Str} {fin : EnvD} (h : ∃ ns ds, N = .ins false (He.ga K "Network") ns ds) (hf : fzn N = true) (hg : g [N] = .ok (.atm (.str x)) fin) : gStrA [(He.ga K "Network", g)] [N] = some (.atm (.str x)) := by
  obtain ⟨ns, ds, rfl⟩ := h
  exact gStr_own (by simpa [fzn] using hf) hg
theorem pl_pairs {k : Nat} {qs : List (Int × Int)} (h : qs.length ≤ 1000) : Pl (k + 2) (pl false qs) :=
  .lst (k + 1) _ (by simpa using h) (by simp) fun d hd => by
    obtain ⟨p, _, rfl⟩ := List.mem_map.mp hd
    exact .tup k _ (by simp) rfl fun d hd => by
      simp at hd
      rcases hd with rfl | rfl <;> exact .int _ _
def fl (ps : List (Int × Int)) : List (Int × Int) := ps.map fun p => (p.2, p.1)
abbrev xDep (K : PySem.W.Frag) (a : Int) : Exn := ⟨He.ga K "NoDepot", ["depot"], [intD a]⟩
abbrev xCus (K : PySem.W.Frag) (a : Int) : Exn := ⟨He.ga K "NoCustomer", ["customer"], [intD a]⟩
theorem nodup_map {α β : Type} {f : α → β} {xs : List α} (h : xs.Nodup) (hf : ∀ x ∈ xs, ∀ y ∈ xs, f x = f y → x = y) : (xs.map f).Nodup := by
  refine List.pairwise_map.mpr ((List.pairwise_iff_forall_sublist.mpr fun {a b} hs => ?_))
  have hm := hs.subset
  have hne : a ≠ b := List.pairwise_iff_forall_sublist.mp h hs
  exact fun e => hne (hf a (hm (by simp)) b (hm (by simp)) e)
theorem Net.fl {a b : Int} {ps : List (Int × Int)} (h : Net a b ps) : Net b a (fl ps) :=
  ⟨h.b1, h.b8, h.a1, h.a8, nodup_map h.nd fun p _ q _ e => by simp at e; exact Prod.ext e.2 e.1, fun p hp => by
    obtain ⟨q, hq, rfl⟩ := List.mem_map.mp hp
    obtain ⟨q1, q2, q3, q4⟩ := h.inr q hq
    exact ⟨q3, q4, q1, q2⟩, by simp [Lw.fl]; exact h.len⟩
theorem fl_fl (ps : List (Int × Int)) : fl (fl ps) = ps := by
  unfold fl
  rw [List.map_map]
  exact (List.map_congr_left fun p _ => rfl).trans (List.map_id ps)
theorem srtP_congr {ps qs : List (Int × Int)} (h : ps.Perm qs) : srtP ps = srtP qs := srtP_eq ((srtP_perm ps).trans h) (List.pairwise_mergeSort (le := leP) (fun a b c h1 h2 => by rw [leP_iff] at *; omega) (fun a b => by rw [Bool.or_eq_true, leP_iff, leP_iff]; omega) ps)
theorem fl_perm {ps qs : List (Int × Int)} (h : ps.Perm qs) : (fl ps).Perm (fl qs) := h.map _
theorem srt_srt (ps : List (Int × Int)) : srtP (srtP ps) = srtP ps := srtP_congr (srtP_perm ps)
section
variable {N : D} {a b lp x : Int} {qs : List (Int × Int)} {jd o : Bool}
theorem NetO.cdo (h : NetO K o N a b qs lp jd) (h' : 0 ≤ x ∧ x < a) : m_f_check_depot K [N, intD x] = .ok (.atm .non) [N, .jnk] := by
  have h1 : ¬ x < 0 := by omega
  have h2 : ¬ a ≤ x := by omega
  simp [m_f_check_depot, fnD_e, b_f_check_depot, maskD, h1, h2, h.jn, h.kp, h.dep]
theorem NetO.cde (h : NetO K o N a b qs lp jd) (h' : ¬ (0 ≤ x ∧ x < a)) : m_f_check_depot K [N, intD x] = .er (xDep K x) [] := by
  by_cases h1 : x < 0
  · simp [m_f_check_depot, fnD_e, b_f_check_depot, maskD, h1, h.jn, h.kp, h.dep]
  · have h2 : a ≤ x := by omega
    simp [m_f_check_depot, fnD_e, b_f_check_depot, maskD, h1, h2, h.jn, h.kp, h.dep]
theorem NetO.cco (h : NetO K o N a b qs lp jd) (h' : 0 ≤ x ∧ x < b) : m_f_check_customer K [N, intD x] = .ok (.atm .non) [N, .jnk] := by
  have h1 : ¬ x < 0 := by omega
  have h2 : ¬ b ≤ x := by omega
  simp [m_f_check_customer, fnD_e, b_f_check_customer, maskD, h1, h2, h.jn, h.kp, h.cus]
theorem NetO.cce (h : NetO K o N a b qs lp jd) (h' : ¬ (0 ≤ x ∧ x < b)) : m_f_check_customer K [N, intD x] = .er (xCus K x) [] := by
  by_cases h1 : x < 0
  · simp [m_f_check_customer, fnD_e, b_f_check_customer, maskD, h1, h.jn, h.kp, h.cus]
  · have h2 : b ≤ x := by omega
    simp [m_f_check_customer, fnD_e, b_f_check_customer, maskD, h1, h2, h.jn, h.kp, h.cus]
end
/-- what the law's code sees of a network, more -/
structure NetI (K : PySem.W.Frag) (N : D) (a b : Int) (qs : List (Int × Int)) (lp : Int) (jd : Bool) : Prop where
  net : Net a b qs
  o : NetO K false N a b qs lp jd
  f : fzn N = true
  fi : gFld (He.ga K "Network") "_indexes" N = some (.dct false (qs.map kP) (mL (fun n : Nat => intD n) (List.range qs.length)))
  km : ∀ m : Str, n7.contains m = false → ∀ (n : Nat) (hf : Fv) (as : Av) (ro : R) (e : EnvD), kMeth1 (He.ga K "Network") m n hf as ro (some N) e = kMeth2 n hf ro (as e)
  pc : m_f_Network_pieces K [N] = .ok (.lst true (mL (pieceD true) (pcs a b (labs a b qs) (a + b).toNat))) [N]
theorem NetI.z {N : D} {a b lp : Int} {qs : List (Int × Int)} {jd : Bool} (h : NetI K N a b qs lp jd) : fz N = N := fz_id N h.f
theorem netI {a b : Int} {ps : List (Int × Int)} (h : Net a b ps) : NetI K (net K false a b ps) a b (srtP ps) (lps a b ps) (decide (maxL (labs a b (srtP ps)) = 0)) where
  net := h.srt
  o := netO
  f := net_fzn
  fi := gF_any rfl (fz_nats _)
  km := fun m hm n hf as ro e => by
    have : (!(n7.contains m)) = true := by rw [hm]; rfl
    show (if (decide (He.ga K "Network" = He.ga K "Network") && !(n7.contains m)) = true then _ else _) = _
    rw [this]
    simp
  pc := pieces_ok h.a1 h.a8 h.b1 h.b8 (by simp)
end Lw
set_option Elab.async false
set_option linter.all false
set_option maxRecDepth 100000
set_option maxHeartbeats 2000000
namespace Lw
open PySem VS
variable {K : PySem.W.Frag}
theorem draw_ok (n : Int) : ∃ (a b : Int) (ps : List (Int × Int)) (n' : Int), Net a b ps ∧
    m_f__law_draw K [.lst true [intD n]] = .ok (.tup [.tup [intD a, intD b], .lst false (mL pairD ps)]) [.lst true [intD n']] := by
  obtain ⟨u1, n1, u1a, u1b, t1⟩ := take_ex (K := K) n 8 (by decide) (by decide)
  obtain ⟨u2, m, u2a, u2b, t2⟩ := take_ex (K := K) n1 8 (by decide) (by decide)
  obtain ⟨a, ha⟩ : ∃ a, a = 1 + u1 := ⟨_, rfl⟩
  obtain ⟨b, hb⟩ : ∃ b, b = 1 + u2 := ⟨_, rfl⟩
  have a1 : 1 ≤ a ∧ a ≤ 8 := by omega
  have b1 : 1 ≤ b ∧ b ≤ 8 := by omega
  have ab0 : 1 ≤ a * b := by
    have := Int.mul_le_mul a1.1 b1.1 (by decide) (by omega)
    omega
  have ab1 : a * b ≤ 64 := by
    have := Int.mul_le_mul a1.2 b1.2 (by omega) (by decide)
    omega
  obtain ⟨c, hc⟩ : ∃ c : Nat, (c : Int) = a * b := ⟨(a * b).toNat, by omega⟩
  have h0 := forD_rng (g := gN 3) (b := l_f__law_draw_0 K) (lo := 0) (n := c) (fun i => [.lst true [intD m], .tup [intD a, intD b], .lst true (mL pairD (allP b i)), .jnk, .jnk, .jnk]) (fun i hi => ⟨_, rfl, by
    have hlen : (allP b i).length < 16777216 := by simp [allP]; omega
    have g1 : 0 < b := by omega
    have g2 : b < 1073741824 := by omega
    simp [l_f__law_draw_0, gIx, L2.atI, L2.ixN, cDiv, g1, g2, hlen, allP_succ]⟩) rfl
  rw [show mL pairD (allP b 0) = [] from rfl] at h0
  obtain ⟨left, hleft⟩ : ∃ left, left = allP b c := ⟨_, rfl⟩
  have hln : left.length = c := by rw [hleft]; simp [allP]
  rw [← hleft] at h0
  have hnd : left.Nodup := by rw [hleft]; exact allP_nodup b (by omega) _
  have hin : ∀ p ∈ left, PR a b p := by
    rw [hleft]
    have : c = (a * b).toNat := by omega
    rw [this]
    exact fun p hp => allP_in a b (by omega) p hp
  obtain ⟨mn, hmn⟩ : ∃ mn : Int, mn = (if (c : Int) < 16 then (c : Int) else 16) := ⟨_, rfl⟩
  have mn1 : 1 ≤ mn ∧ mn ≤ 16 ∧ mn ≤ c := by rw [hmn]; split <;> omega
  obtain ⟨u3, m3, u3a, u3b, t3⟩ := take_ex (K := K) m (mn + 1) (by omega) (by omega)
  obtain ⟨t, ht⟩ : ∃ t : Nat, (t : Int) = u3 := ⟨u3.toNat, by omega⟩
  have ht1 : t ≤ 16 ∧ (t : Int) ≤ c := by omega
  have L1 := forD_nx (g := gN 5) (b := l_f__law_draw_1 K)
    (Inv := fun i e => ∃ (q : Int) (lf pr : List (Int × Int)), (pr ++ lf).Nodup ∧ (∀ p ∈ pr ++ lf, PR a b p) ∧ lf.length + i = c ∧ pr.length = i ∧ e = [.lst true [intD q], .tup [intD a, intD b], .lst true (mL pairD lf), .jnk, .lst true (mL pairD pr), .jnk]) (rngD 0 t) 0
    [.lst true [intD m3], .tup [intD a, intD b], .lst true (mL pairD left), .jnk, .lst true [], .jnk] ⟨_, left, [], by simpa using hnd, by simpa using hin, by simpa using hln, rfl, rfl⟩ (by
      rintro i d e hd ⟨q, lf, pr, h1, h2, h3, h4, rfl⟩
      obtain ⟨rfl, hi⟩ := rngD_get hd
      have hl0 : 0 < lf.length := by omega
      obtain ⟨u4, q', u4a, u4b, t4⟩ := take_ex (K := K) q lf.length (by omega) (by omega)
      obtain ⟨x, _, pm, pa⟩ := pop_map (en := pairD) (ps := lf) u4a u4b (by omega)
      have pm : (pr ++ [x] ++ lf.eraseIdx u4.toNat).Perm (pr ++ lf) := by
        rw [List.append_assoc]
        exact pm.append_left pr
      refine ⟨_, [.lst true [intD q'], .tup [intD a, intD b], .lst true (mL pairD (lf.eraseIdx u4.toNat)), .jnk, .lst true (mL pairD (pr ++ [x])), .jnk], rfl, ?_, q', lf.eraseIdx u4.toNat, pr ++ [x], pm.nodup_iff.mpr h1, fun p hp => h2 p (pm.mem_iff.mp hp), ?_, ?_, ?_⟩
      · have hpl : pr.length < 16777216 := by omega
        simp [l_f__law_draw_1, t4, pa, hpl, show fz (pairD x) = pairD x from rfl]
      · rw [List.length_eraseIdx, if_pos (by omega)]
        omega
      · simp; omega
      · simp)
  obtain ⟨e1, h1, q, lf, pr, k1, k2, k3, k4, rfl⟩ := L1
  refine ⟨a, b, pr, q, ⟨a1.1, a1.2, b1.1, b1.2, (List.nodup_append.mp k1).1, fun p hp => k2 p (List.mem_append_left _ hp), by simp [rngD] at k4; omega⟩, ?_⟩
  have r1 : -100000 ≤ a * b ∧ a * b ≤ 100000 := by omega
  have r2 : (a * b).toNat = c := by omega
  have r3 : -100000 ≤ u3 ∧ u3 ≤ 100000 := by omega
  have r4 : u3.toNat = t := by omega
  have cm : cMul a b = true := by simp [cMul]; omega
  subst ha hb
  simp [m_f__law_draw, fnD_e, b_f__law_draw, List.replicate, t1, t2, gIx, L2.atI, L2.ixN, cm, r1, r2, h0, hln, ← hmn, t3, r3, r4, h1, maskD]
theorem mirrored_ok {a b : Int} {ps : List (Int × Int)} (h : Net a b ps) : ∃ (s : Int) (qs : List (Int × Int)), Net s s qs ∧
    m_f__law_mirrored K [.tup [intD a, intD b], pl false ps] = .ok (.tup [.tup [intD s, intD s], pl false qs]) [.jnk, .jnk] := by
  have a1 := h.a1
  have a8 := h.a8
  have b1 := h.b1
  have b8 := h.b8
  have hl := h.len
  obtain ⟨s, hs⟩ : ∃ s : Int, s = (if b < a then b else a) := ⟨_, rfl⟩
  have s1 : 1 ≤ s ∧ s ≤ 8 := by rw [hs]; split <;> omega
  have L := forD_nx (g := gN 4) (b := l_f__law_mirrored_0 K)
    (Inv := fun i e => ∃ pr : List (Int × Int), pr.Nodup ∧ (∀ p ∈ pr, PR s s p) ∧ pr.length ≤ 16 ∧ (∀ p ∈ pr, (p.2, p.1) ∈ pr) ∧ e = [.tup [intD a, intD b], pl false ps, intD s, pl true pr, .jnk, .jnk]) (mL pairD ps) 0
    [.tup [intD a, intD b], pl false ps, intD s, .lst true [], .jnk, .jnk] ⟨[], List.nodup_nil, (fun p hp => by cases hp), by simp, (fun p hp => by cases hp), rfl⟩ (by
      rintro i d e hd ⟨pr, h1, h2, h3, h4, rfl⟩
      obtain ⟨p, hp, rfl⟩ : ∃ p, p ∈ ps ∧ d = pairD p := by
        have := List.mem_of_getElem? hd
        obtain ⟨p, hp, rfl⟩ := List.mem_map.mp this
        exact ⟨p, hp, rfl⟩
      obtain ⟨x, y⟩ := p
      obtain ⟨p1, p2, p3, p4⟩ := h.inr _ hp
      simp only at p1 p2 p3 p4
      by_cases c : ((if y > x then y else x) < s ∧ (x, y) ∉ pr) ∧ pr.length < 15
      · obtain ⟨⟨c1, c2⟩, c3⟩ := c
        have c3' : (pr.length : Int) < 15 := by omega
        have cx : x < s ∧ y < s := by split at c1 <;> omega
        have hl1 : pr.length < 16777216 := by omega
        have hl2 : pr.length + 1 < 16777216 := by omega
        by_cases e : x = y
        · subst e
          refine ⟨_, [.tup [intD a, intD b], pl false ps, intD s, pl true (pr ++ [(x, x)]), .jnk, .jnk], rfl, ?_, pr ++ [(x, x)], ?_, ?_, ?_, ?_, rfl⟩
          · simp [l_f__law_mirrored_0, gIx, L2.atI, L2.ixN, cx.1, c2, c3', hl1]
          · rw [List.nodup_append]
            exact ⟨h1, by simp, fun u hu v hv => by simp at hv; subst hv; rintro rfl; exact c2 hu⟩
          · intro q hq
            rcases List.mem_append.mp hq with hq | hq
            · exact h2 q hq
            · simp at hq; subst hq; exact ⟨p1, cx.1, p1, cx.1⟩
          · simp; omega
          · intro q hq
            rcases List.mem_append.mp hq with hq | hq
            · exact List.mem_append_left _ (h4 q hq)
            · simp at hq; subst hq; simp
        · have c4 : (y, x) ∉ pr := fun z => c2 (h4 _ z)
          have e' : ¬ y = x := fun z => e z.symm
          refine ⟨_, [.tup [intD a, intD b], pl false ps, intD s, pl true (pr ++ [(x, y)] ++ [(y, x)]), .jnk, .jnk], rfl, ?_, pr ++ [(x, y)] ++ [(y, x)], ?_, ?_, ?_, ?_, rfl⟩
          · simp only [List.append_assoc]
            simp [l_f__law_mirrored_0, gIx, L2.atI, L2.ixN, c1, c2, c3', hl1, hl2, e]
          · rw [List.append_assoc, List.nodup_append]
            refine ⟨h1, by simp [e], fun u hu v hv => ?_⟩
            simp at hv
            rcases hv with rfl | rfl
            · rintro rfl; exact c2 hu
            · rintro rfl; exact c4 hu
          · intro q hq
            rw [List.append_assoc] at hq
            rcases List.mem_append.mp hq with hq | hq
            · exact h2 q hq
            · simp at hq
              rcases hq with rfl | rfl
              · exact ⟨p1, cx.1, p3, cx.2⟩
              · exact ⟨p3, cx.2, p1, cx.1⟩
          · simp; omega
          · intro q hq
            rw [List.append_assoc] at hq ⊢
            rcases List.mem_append.mp hq with hq | hq
            · exact List.mem_append_left _ (h4 q hq)
            · simp at hq
              rcases hq with rfl | rfl <;> simp
      · refine ⟨_, [.tup [intD a, intD b], pl false ps, intD s, pl true pr, .jnk, .jnk], rfl, ?_, pr, h1, h2, h3, h4, rfl⟩
        have hl1 : pr.length < 16777216 := by omega
        by_cases d1 : (if y > x then y else x) < s
        · by_cases d2 : (x, y) ∈ pr
          · simp [l_f__law_mirrored_0, gIx, L2.atI, L2.ixN, d1, d2]
          · have d3 : ¬ (pr.length : Int) < 15 := fun z => c ⟨⟨d1, d2⟩, by omega⟩
            simp [l_f__law_mirrored_0, gIx, L2.atI, L2.ixN, d1, d2, d3]
        · simp [l_f__law_mirrored_0, gIx, L2.atI, L2.ixN, d1])
  obtain ⟨e1, L, pr, k1, k2, k3, k4, rfl⟩ := L
  refine ⟨s, pr, ⟨s1.1, s1.2, s1.1, s1.2, k1, k2, k3⟩, ?_⟩
  simp [m_f__law_mirrored, fnD_e, b_f__law_mirrored, List.replicate, gIx, L2.atI, L2.ixN, ← hs, L, maskD]
theorem odd_ok (n a b : Int) (ha : 1 ≤ a ∧ a ≤ 8) (hb : 1 ≤ b ∧ b ≤ 8) : ∃ (as : List (Int × Int)) (ls : List (List Int)) (n' : Int), as.length = 4 ∧ ls.length = 2 ∧ (∀ l ∈ ls, l.length ≤ 4) ∧
    m_f__law_draw_odd K [.lst true [intD n], .tup [intD a, intD b]] = .ok (.tup [pl false as, .lst false (mL (il false) ls)]) [.lst true [intD n'], .jnk] := by
  have L0 := forD_nx (g := gN 3) (b := l_f__law_draw_odd_0 K)
    (Inv := fun i e => ∃ (q : Int) (as : List (Int × Int)), as.length = i ∧ e = [.lst true [intD q], .tup [intD a, intD b], pl true as, .jnk, .jnk, .jnk, .jnk, .jnk]) (rngD 0 4) 0
    [.lst true [intD n], .tup [intD a, intD b], .lst true [], .jnk, .jnk, .jnk, .jnk, .jnk] ⟨_, [], rfl, rfl⟩ (by
      rintro i d e hd ⟨q, as, h1, rfl⟩
      obtain ⟨rfl, hi⟩ := rngD_get hd
      obtain ⟨u1, q1, u1a, u1b, t1⟩ := take_ex (K := K) q (a + 2) (by omega) (by omega)
      obtain ⟨u2, q2, u2a, u2b, t2⟩ := take_ex (K := K) q1 (b + 2) (by omega) (by omega)
      have hl : as.length < 16777216 := by omega
      refine ⟨_, [.lst true [intD q2], .tup [intD a, intD b], pl true (as ++ [(u1 - 1, u2 - 1)]), .jnk, .jnk, .jnk, .jnk, .jnk], rfl, ?_, q2, as ++ [(u1 - 1, u2 - 1)], by simp [h1], rfl⟩
      simp [l_f__law_draw_odd_0, gIx, L2.atI, L2.ixN, t1, t2, hl])
  obtain ⟨e1, L0, q0, as, k0, rfl⟩ := L0
  have L1 := forD_nx (g := gN 3) (b := l_f__law_draw_odd_2 K)
    (Inv := fun i e => ∃ (q : Int) (ls : List (List Int)), ls.length = i ∧ (∀ l ∈ ls, l.length ≤ 4) ∧ e = [.lst true [intD q], .tup [intD a, intD b], pl true as, .jnk, .jnk, .lst true (mL (il false) ls), .jnk, .jnk]) (rngD 0 2) 0
    [.lst true [intD q0], .tup [intD a, intD b], pl true as, .jnk, .jnk, .lst true [], .jnk, .jnk] ⟨_, [], rfl, (fun l hl => by cases hl), rfl⟩ (by
      rintro i d e hd ⟨q, ls, h1, h2, rfl⟩
      obtain ⟨rfl, hi⟩ := rngD_get hd
      obtain ⟨u1, q1, u1a, u1b, t1⟩ := take_ex (K := K) q 5 (by omega) (by omega)
      obtain ⟨t, ht⟩ : ∃ t : Nat, (t : Int) = u1 := ⟨u1.toNat, by omega⟩
      have L2 := forD_nx (g := gN 7) (b := l_f__law_draw_odd_1 K)
        (Inv := fun j e => ∃ (q : Int) (lt : List Int), lt.length = j ∧ e = [.lst true [intD q], .tup [intD a, intD b], pl true as, intD (0 + (i : Int)), .jnk, .lst true (mL (il false) ls), il true lt, .jnk]) (rngD 0 t) 0
        [.lst true [intD q1], .tup [intD a, intD b], pl true as, intD (0 + (i : Int)), .jnk, .lst true (mL (il false) ls), .lst true [], .jnk] ⟨_, [], rfl, rfl⟩ (by
          rintro j d e hd ⟨q, lt, h1, rfl⟩
          obtain ⟨rfl, hj⟩ := rngD_get hd
          obtain ⟨u2, q2, u2a, u2b, t2⟩ := take_ex (K := K) q (a + 2) (by omega) (by omega)
          have hl : lt.length < 16777216 := by omega
          refine ⟨_, [.lst true [intD q2], .tup [intD a, intD b], pl true as, intD (0 + (i : Int)), .jnk, .lst true (mL (il false) ls), il true (lt ++ [u2 - 1]), .jnk], rfl, ?_, q2, lt ++ [u2 - 1], by simp [h1], rfl⟩
          simp [l_f__law_draw_odd_1, gIx, L2.atI, L2.ixN, t2, hl])
      obtain ⟨e2, L2, q3, lt, k1, rfl⟩ := L2
      simp only [rngD, List.length_map, List.length_range, Nat.zero_add] at k1
      rw [Int.zero_add] at L2
      have r3 : -100000 ≤ u1 ∧ u1 ≤ 100000 := by omega
      have r4 : u1.toNat = t := by omega
      have hll : ls.length < 16777216 := by omega
      refine ⟨_, [.lst true [intD q3], .tup [intD a, intD b], pl true as, .jnk, .jnk, .lst true (mL (il false) (ls ++ [lt])), .jnk, .jnk], rfl, ?_, q3, ls ++ [lt], by simp [h1], ?_, rfl⟩
      · have sn : mL (il false) ls ++ [.lst false (mL intD lt)] = mL (il false) (ls ++ [lt]) := mL_snoc (en := il false)
        simp [l_f__law_draw_odd_2, t1, r3, r4, L2, hll, sn]
      · intro l hl
        rcases List.mem_append.mp hl with hl | hl
        · exact h2 l hl
        · simp at hl; subst hl; omega)
  obtain ⟨e2, L1, q4, ls, k1, k2, rfl⟩ := L1
  have fl : fzs (mL (il false) ls) = mL (il false) ls := fzs_id _ (fzns_mL' _ (fun _ => by simp) _)
  refine ⟨as, ls, q4, by simpa [rngD] using k0, by simpa [rngD] using k1, k2, ?_⟩
  simp [m_f__law_draw_odd, fnD_e, b_f__law_draw_odd, List.replicate, L0, L1, maskD, fl]
end Lw
set_option Elab.async false
set_option linter.all false
set_option maxRecDepth 100000
set_option maxHeartbeats 2000000
namespace Lw
open PySem VS
variable {K : PySem.W.Frag}
@[simp] theorem kOp2_er {h : D → D → Option D} {ra : R} {x : Exn} {e : EnvD} : kOp2 h ra (.er x e) = .er x e := (rfl)
theorem kP_iff {p q : Int × Int} : kP p = kP q ↔ p = q := by
  constructor
  · intro z
    simp [kP] at z
    exact Prod.ext z.1 z.2
  · rintro rfl; rfl
theorem fi_kP (p : Int × Int) (qs : List (Int × Int)) : (qs.map kP).findIdx? (fun z => decide (z = [.inl p.1, .inl p.2])) = qs.findIdx? (fun z => decide (z = p)) := by
  rw [List.findIdx?_map]
  congr 1
  funext z
  exact decide_eq_decide.mpr (kP_iff (p := z) (q := p))
theorem fi_some (p : Int × Int) (qs : List (Int × Int)) : (qs.findIdx? (fun z => decide (z = p))).isSome = decide (p ∈ qs) := by
  rw [List.findIdx?_isSome]
  by_cases h : p ∈ qs
  · rw [decide_eq_true h, List.any_eq_true]
    exact ⟨p, h, by simp⟩
  · rw [decide_eq_false h, List.any_eq_false]
    intro q hq
    simp
    rintro rfl
    exact h hq
section
variable {N : D} {a b lp x : Int} {qs : List (Int × Int)} {jd : Bool}
theorem con_ok (h : NetI K N a b qs lp jd) (p : Int × Int) : m_f_Network_contains K [N, .tup [intD p.1, intD p.2]] = .ok (.atm (.bl (decide (p ∈ qs)))) [.jnk, .jnk] := by
  have g : gDin (.tup [intD p.1, intD p.2]) (.dct false (qs.map kP) (mL (fun n : Nat => intD n) (List.range qs.length))) = some (.atm (.bl (decide (p ∈ qs)))) := by
    unfold gDin
    simp only [keyD_pair, fi_kP, fi_some]
  have gt : gTuple [.tup [intD p.1, intD p.2]] = some (.tup [intD p.1, intD p.2]) := rfl
  simp [m_f_Network_contains, fnD_e, b_f_Network_contains, List.replicate, h.o.jn, h.fi, g, gt, maskD]
theorem len_ok (h : NetI K N a b qs lp jd) : m_f_Network_len K [N] = .ok (intD qs.length) [.jnk] := by
  have hl := h.net.len
  have hl2 : qs.length < 16777216 := by omega
  simp [m_f_Network_len, fnD_e, b_f_Network_len, List.replicate, h.o.jn, h.o.fr, maskD, hl2]
theorem cof_ok (h : NetI K N a b qs lp jd) (hx : 0 ≤ x ∧ x < a) : m_f_Network_customers_of K [N, intD x] = .ok (il true ((qs.filter fun p => decide (p.1 = x)).map fun p => p.2)) [.jnk, .jnk] := by
  have hl := h.net.len
  have c := h.o.cdo hx
  have C := lc_map (g := gT 2 (gsCons (gN 3) (gsCons (gN 2) gsNil))) (tt := tBl (eOp (gEq false) (eVar 3) (eVar 1))) (te := eCp 2) (vs := [3, 2]) (e0 := [N, intD x, .jnk, .jnk]) (en := pairD) (en' := intD)
    qs (fun p => decide (p.1 = x)) (fun p => p.2) (fun p => [N, intD x, intD p.2, intD p.1]) (fun ⟨u, v⟩ => by simp) (fun x => rfl) (fun x hx => by simp) (fun x hx _ => rfl) (by omega)
  simp [m_f_Network_customers_of, fnD_e, b_f_Network_customers_of, List.replicate, h.o.jn, h.f, h.o.fr, c, C, maskD]
theorem cof_er (h : NetI K N a b qs lp jd) (hx : ¬ (0 ≤ x ∧ x < a)) : m_f_Network_customers_of K [N, intD x] = .er (xDep K x) [] := by
  have c := h.o.cde hx
  simp [m_f_Network_customers_of, fnD_e, b_f_Network_customers_of, List.replicate, h.o.jn, h.f, c, maskD]
theorem dof_ok (h : NetI K N a b qs lp jd) (hx : 0 ≤ x ∧ x < b) : m_f_Network_depots_of K [N, intD x] = .ok (il true ((qs.filter fun p => decide (p.2 = x)).map fun p => p.1)) [.jnk, .jnk] := by
  have hl := h.net.len
  have c := h.o.cco hx
  have C := lc_map (g := gT 2 (gsCons (gN 2) (gsCons (gN 3) gsNil))) (tt := tBl (eOp (gEq false) (eVar 3) (eVar 1))) (te := eCp 2) (vs := [2, 3]) (e0 := [N, intD x, .jnk, .jnk]) (en := pairD) (en' := intD)
    qs (fun p => decide (p.2 = x)) (fun p => p.1) (fun p => [N, intD x, intD p.1, intD p.2]) (fun ⟨u, v⟩ => by simp) (fun x => rfl) (fun x hx => by simp) (fun x hx _ => rfl) (by omega)
  simp [m_f_Network_depots_of, fnD_e, b_f_Network_depots_of, List.replicate, h.o.jn, h.f, h.o.fr, c, C, maskD]
theorem dof_er (h : NetI K N a b qs lp jd) (hx : ¬ (0 ≤ x ∧ x < b)) : m_f_Network_depots_of K [N, intD x] = .er (xCus K x) [] := by
  have c := h.o.cce hx
  simp [m_f_Network_depots_of, fnD_e, b_f_Network_depots_of, List.replicate, h.o.jn, h.f, c, maskD]
theorem nin_net (h : NetI K N a b qs lp jd) (p : Int × Int) : gNinA [(He.ga K "Network", m_f_Network_contains K)] (.tup [intD p.1, intD p.2]) N = some (.atm (.bl (!decide (p ∈ qs)))) := by
  have c := con_ok h p
  obtain ⟨ns, ds, e⟩ := h.o.ins
  have f := h.f
  subst e
  exact gNinA_own (by simpa using f) (by simp) c
theorem in_net (h : NetI K N a b qs lp jd) (p : Int × Int) : gInA [(He.ga K "Network", m_f_Network_contains K)] (.tup [intD p.1, intD p.2]) N = some (.atm (.bl (decide (p ∈ qs)))) := by
  have c := con_ok h p
  obtain ⟨ns, ds, e⟩ := h.o.ins
  have f := h.f
  subst e
  exact gInA_own (by simpa using f) (by simp) c
theorem len_net (h : NetI K N a b qs lp jd) : gLenA [(He.ga K "Network", m_f_Network_len K)] [N] = some (intD qs.length) := by
  have c := len_ok h
  have hl := h.net.len
  obtain ⟨ns, ds, e⟩ := h.o.ins
  have f := h.f
  subst e
  exact gLenA_own (by simpa using f) (by omega) c
theorem eq_net {N' : D} {a' b' lp' : Int} {qs' : List (Int × Int)} {jd' : Bool} (h : NetI K N a b qs lp jd) (h' : NetI K N' a' b' qs' lp' jd') :
    gEqA [(He.ga K "Network", m_f_Network_eq K)] N N' = some (.atm (.bl (decide (a = a' ∧ b = b' ∧ qs = qs')))) := by
  have g := gEq_pairs false false qs qs'
  have c : m_f_Network_eq K [N, N'] = .ok (.atm (.bl (decide (a = a' ∧ b = b' ∧ qs = qs')))) [.jnk, .jnk] := by
    by_cases h1 : a = a'
    · by_cases h2 : b = b'
      · simp [m_f_Network_eq, fnD_e, b_f_Network_eq, List.replicate, h.o.jn, h'.o.jn, h'.o.io, h.o.fd, h'.o.fd, h.o.fc, h'.o.fc, h.o.fr, h'.o.fr, g, h1, h2, maskD]
      · simp [m_f_Network_eq, fnD_e, b_f_Network_eq, List.replicate, h.o.jn, h'.o.jn, h'.o.io, h.o.fd, h'.o.fd, h.o.fc, h'.o.fc, h1, h2, maskD]
    · simp [m_f_Network_eq, fnD_e, b_f_Network_eq, List.replicate, h.o.jn, h'.o.jn, h'.o.io, h.o.fd, h'.o.fd, h1, maskD]
  obtain ⟨ns, ds, e⟩ := h.o.ins
  obtain ⟨ns', ds', e'⟩ := h'.o.ins
  have f := h.f
  have f' := h'.f
  subst e
  subst e'
  exact gEqA_own (by simpa using f) (by simpa using f') c
abbrev xRou (K : PySem.W.Frag) (p : Int × Int) : Exn := ⟨He.ga K "NoRoute", ["route"], [pairD p]⟩
theorem rou_ok (h : NetI K N a b qs lp jd) {p : Int × Int} (h1 : 0 ≤ p.1 ∧ p.1 < a) (h2 : 0 ≤ p.2 ∧ p.2 < b) (h3 : p ∈ qs) : m_f_check_route K [N, .tup [intD p.1, intD p.2]] = .ok (.tup [intD p.1, intD p.2]) [.jnk, .jnk] := by
  have c1 := h.o.cdo h1
  have c2 := h.o.cco h2
  have c3 := nin_net h p
  simp [m_f_check_route, fnD_e, b_f_check_route, List.replicate, h.o.jn, h.f, c1, c2, c3, h3, maskD]
theorem rou_e1 (h : NetI K N a b qs lp jd) {p : Int × Int} (h1 : ¬ (0 ≤ p.1 ∧ p.1 < a)) : m_f_check_route K [N, .tup [intD p.1, intD p.2]] = .er (xDep K p.1) [] := by
  have c1 := h.o.cde h1
  simp [m_f_check_route, fnD_e, b_f_check_route, List.replicate, h.o.jn, h.f, c1, maskD]
theorem rou_e2 (h : NetI K N a b qs lp jd) {p : Int × Int} (h1 : 0 ≤ p.1 ∧ p.1 < a) (h2 : ¬ (0 ≤ p.2 ∧ p.2 < b)) : m_f_check_route K [N, .tup [intD p.1, intD p.2]] = .er (xCus K p.2) [] := by
  have c1 := h.o.cdo h1
  have c2 := h.o.cce h2
  simp [m_f_check_route, fnD_e, b_f_check_route, List.replicate, h.o.jn, h.f, c1, c2, maskD]
theorem rou_e3 (h : NetI K N a b qs lp jd) {p : Int × Int} (h1 : 0 ≤ p.1 ∧ p.1 < a) (h2 : 0 ≤ p.2 ∧ p.2 < b) (h3 : p ∉ qs) : m_f_check_route K [N, .tup [intD p.1, intD p.2]] = .er (xRou K p) [] := by
  have c1 := h.o.cdo h1
  have c2 := h.o.cco h2
  have c3 := nin_net h p
  simp [m_f_check_route, fnD_e, b_f_check_route, List.replicate, h.o.jn, h.f, c1, c2, c3, h3, maskD, pairD]
theorem idx_ok (h : NetI K N a b qs lp jd) {p : Int × Int} {j : Nat} (h1 : 0 ≤ p.1 ∧ p.1 < a) (h2 : 0 ≤ p.2 ∧ p.2 < b) (h3 : p ∈ qs) (hj : qs.findIdx? (fun z => decide (z = p)) = some j) : m_f_Network_index_of K [N, .tup [intD p.1, intD p.2]] = .ok (intD j) [.jnk, .jnk] := by
  have c := rou_ok h h1 h2 h3
  have g : gDg (.dct false (qs.map kP) (mL (fun n : Nat => intD n) (List.range qs.length))) (.tup [intD p.1, intD p.2]) = some (intD j) := by
    obtain ⟨hj1, _⟩ := List.findIdx?_eq_some_iff_getElem.mp hj
    have e : (mL (fun n : Nat => intD n) (List.range qs.length))[j]? = some (intD j) := by
      unfold mL
      rw [List.getElem?_map, List.getElem?_range hj1]
      rfl
    unfold gDg
    simp only [keyD_pair, fi_kP, hj, e]
    rfl
  simp [m_f_Network_index_of, fnD_e, b_f_Network_index_of, List.replicate, h.o.jn, h.f, h.fi, c, g, maskD]
theorem idx_er (h : NetI K N a b qs lp jd) {p : Int × Int} {x : Exn} (c : m_f_check_route K [N, .tup [intD p.1, intD p.2]] = .er x []) : m_f_Network_index_of K [N, .tup [intD p.1, intD p.2]] = .er x [] := by
  simp [m_f_Network_index_of, fnD_e, b_f_Network_index_of, List.replicate, h.o.jn, h.f, h.fi, c, maskD]
end
end Lw
set_option Elab.async false
set_option linter.all false
set_option maxRecDepth 100000
set_option maxHeartbeats 2000000
namespace Lw
open PySem VS
variable {K : PySem.W.Frag} {Pg : Program} {mg : Str → Option Value}
/-! lots -/
def good (a : Int) (lot : List Int) (i : Nat) : Prop := (0 ≤ aI lot i ∧ aI lot i < a) ∧ aI lot i ∉ lot.take i
def badN (a : Int) (lot : List Int) (k : Nat) : String := if 0 ≤ aI lot k ∧ aI lot k < a then "Repeated" else "NoDepot"
def refd (n : String) (x : Int) : D := .tup [.atm (.str "refused"), .atm (.str n), .atm (.int x)]
def stR (lot : List Int) (seen : List Int) (p : Int × Int) : List Int := if p.1 ∈ lot ∧ p.2 ∉ seen then seen ++ [p.2] else seen
def rch (b : Int) (ps : List (Int × Int)) (lot : List Int) : List Int := (rI 0 b.toNat).filter fun c => decide (c ∈ (ps.filter fun p => decide (p.1 ∈ lot)).map (·.2))
theorem stR_mem (lot : List Int) : ∀ (ps : List (Int × Int)) (s : List Int) (c : Int), c ∈ ps.foldl (stR lot) s ↔ c ∈ s ∨ c ∈ (ps.filter fun p => decide (p.1 ∈ lot)).map (·.2)
  | [], s, c => by simp
  | p :: ps, s, c => by
    rw [List.foldl_cons, stR_mem lot ps]
    unfold stR
    by_cases h : p.1 ∈ lot
    · by_cases h2 : p.2 ∈ s
      · simp only [h, h2, not_true_eq_false, and_false, if_false, List.filter_cons, decide_true, if_true, List.map_cons, List.mem_cons]
        constructor
        · rintro (h3 | h3)
          · exact .inl h3
          · exact .inr (.inr h3)
        · rintro (h3 | rfl | h3)
          · exact .inl h3
          · exact .inl h2
          · exact .inr h3
      · simp [h, h2, or_assoc]
    · simp [h]
theorem stR_nd (lot : List Int) : ∀ (ps : List (Int × Int)) (s : List Int), s.Nodup → (ps.foldl (stR lot) s).Nodup
  | [], s, h => h
  | p :: ps, s, h => by
    rw [List.foldl_cons]
    refine stR_nd lot ps _ ?_
    unfold stR
    split
    · rename_i c
      rw [List.nodup_append]
      exact ⟨h, by simp, fun a ha b hb => by
        simp at hb
        subst hb
        rintro rfl
        exact c.2 ha⟩
    · exact h
theorem srt_reach {a b : Int} {ps : List (Int × Int)} (lot : List Int) (hp : ∀ p ∈ ps, PR a b p) : srtI (ps.foldl (stR lot) []) = rch b ps lot := by
  refine (srtI_eq ?_ ?_).symm
  · have h1 : (rch b ps lot).Nodup := List.Pairwise.sublist (List.filter_sublist) ((pw_rI 0 b.toNat).imp fun h => Int.ne_of_lt h)
    rw [List.perm_ext_iff_of_nodup h1 (stR_nd lot ps [] List.nodup_nil)]
    intro c
    rw [stR_mem]
    unfold rch
    rw [List.mem_filter]
    constructor
    · rintro ⟨_, h⟩
      exact .inr (by simpa using h)
    · rintro (h | h)
      · cases h
      · refine ⟨?_, by simpa using h⟩
        obtain ⟨p, hp1, rfl⟩ := List.mem_map.mp h
        have := hp p (List.mem_filter.mp hp1).1
        exact mem_rI.mpr ⟨this.2.2.1, by have := this.2.2.2; omega⟩
  · exact List.Pairwise.sublist (List.filter_sublist) ((pw_rI 0 b.toNat).imp fun h => Int.le_of_lt h)
theorem good_get {lot : List Int} {k : Nat} (h : k < lot.length) (o : Bool) : gIx (il o lot) (.atm (.int (k : Int))) = some (.atm (.int (aI lot k))) := gIx_at (by omega) (by omega)
theorem reach_bad {a b : Int} {ps : List (Int × Int)} {lot : List Int} {k : Nat} (hl : lot.length ≤ 20) (hk : k < lot.length) (h : ∀ i < k, good a lot i) (h' : ¬ good a lot k) :
    m_f__law_reach_due K [.tup [intD a, intD b], pl false ps, il false lot] = .ok (refd (badN a lot k) (aI lot k)) [.jnk, .jnk, .jnk] := by
  have L := forD_rngS (g := gN 3) (b := l_f__law_reach_due_0 K) (lo := 0) (n := lot.length) (k := k) (m := .ok (.rt (refd (badN a lot k) (aI lot k))) [.tup [intD a, intD b], pl false ps, il false lot, .jnk, .jnk, .jnk])
    (fun i => [.tup [intD a, intD b], pl false ps, il false lot, .jnk, .jnk, .jnk]) hk (fun i hi => ⟨_, rfl, by
      have g := good_get (lot := lot) (k := i) (by omega) false
      obtain ⟨⟨h1, h2⟩, h3⟩ := h i hi
      simp [l_f__law_reach_due_0, g, h1, h2, h3]⟩) ⟨_, rfl, by
      have g := good_get (lot := lot) hk false
      unfold badN refd
      by_cases h1 : 0 ≤ aI lot k
      · by_cases h2 : aI lot k < a
        · have h3 : aI lot k ∈ lot.take k := by
            apply Classical.byContradiction
            intro h3
            exact h' ⟨⟨h1, h2⟩, h3⟩
          simp [l_f__law_reach_due_0, g, h1, h2, h3]
        · simp [l_f__law_reach_due_0, g, h1, h2]
      · simp [l_f__law_reach_due_0, g, h1]⟩ (.inl ⟨_, _, rfl⟩) rfl
  have r1 : lot.length ≤ 100000 := by omega
  simp [m_f__law_reach_due, fnD_e, b_f__law_reach_due, List.replicate, r1, L, maskD]
theorem reach_good {a b : Int} {ps : List (Int × Int)} {lot : List Int} (hp : ∀ p ∈ ps, PR a b p) (hp2 : ps.length ≤ 16) (hl : lot.length ≤ 20) (h : ∀ i < lot.length, good a lot i) :
    m_f__law_reach_due K [.tup [intD a, intD b], pl false ps, il false lot] = .ok (.tup [.atm (.str "told"), il true (rch b ps lot)]) [.jnk, .jnk, .jnk] := by
  have L := forD_rng (g := gN 3) (b := l_f__law_reach_due_0 K) (lo := 0) (n := lot.length)
    (fun i => [.tup [intD a, intD b], pl false ps, il false lot, .jnk, .jnk, .jnk]) (fun i hi => ⟨_, rfl, by
      have g := good_get (lot := lot) (k := i) (by omega) false
      obtain ⟨⟨h1, h2⟩, h3⟩ := h i hi
      simp [l_f__law_reach_due_0, g, h1, h2, h3]⟩) rfl
  have L2 := forD_foldN (g := gN 5) (b := l_f__law_reach_due_1 K) (en := pairD) (stR lot) (fun s => [.tup [intD a, intD b], pl false ps, il false lot, .jnk, il true s, .jnk]) ps [] (fun n s => s.length ≤ n) 0 (by simp) (by
    rintro n s ⟨x, y⟩ hx hn hs
    have h3 : s.length < 16777216 := by omega
    refine ⟨⟨_, rfl, ?_⟩, by unfold stR; split <;> first | (rw [List.length_append]; exact Nat.succ_le_succ hs) | omega⟩
    unfold stR
    by_cases h1 : x ∈ lot
    · by_cases h2 : y ∈ s
      · simp [l_f__law_reach_due_1, h1, h2]
      · simp [l_f__law_reach_due_1, h1, h2, h3]
    · simp [l_f__law_reach_due_1, h1]) rfl
  have L2 := L2.1
  simp only [il, mL_nil] at L2
  have r1 : lot.length ≤ 100000 := by omega
  simp [m_f__law_reach_due, fnD_e, b_f__law_reach_due, List.replicate, r1, L, L2, maskD, srt_reach lot hp]
def badX (K : PySem.W.Frag) (a : Int) (lot : List Int) (k : Nat) : Exn := if 0 ≤ aI lot k ∧ aI lot k < a then ⟨He.ga K "Repeated", ["entry"], [intD (aI lot k)]⟩ else ⟨He.ga K "NoDepot", ["depot"], [intD (aI lot k)]⟩
section
variable {N : D} {a b lp x : Int} {qs : List (Int × Int)} {jd : Bool} {lot : List Int} {k : Nat}
theorem lot_ok (hN : NetI K N a b qs lp jd) (hl : lot.length ≤ 20) (h : ∀ i < lot.length, good a lot i) : m_f_check_lot K [N, il false lot] = .ok (il true lot) [.jnk, .jnk] := by
  have L := forD_map (g := gN 3) (b := l_f_check_lot_0 K) (en := intD) (xs := lot) (fun i => [N, il false lot, il true (lot.take i), .jnk]) (fun i x hx => ⟨_, rfl, by
    have hi := (List.getElem?_eq_some_iff.mp hx).1
    obtain ⟨⟨h1, h2⟩, h3⟩ := h i hi
    rw [aI_get hx] at h1 h2 h3
    have hd := hN.o.cdo ⟨h1, h2⟩
    have hmn : min i lot.length < 16777216 := by omega
    simp [l_f_check_lot_0, hN.o.jn, hN.f, hd, h3, take_snoc hx, hmn]⟩) rfl
  simp only [List.take_zero, List.take_length, mL_nil, il] at L
  simp [m_f_check_lot, fnD_e, b_f_check_lot, List.replicate, maskD, L]
theorem lot_er (hN : NetI K N a b qs lp jd) (hl : lot.length ≤ 20) (hk : k < lot.length) (h : ∀ i < k, good a lot i) (h' : ¬ good a lot k) : m_f_check_lot K [N, il false lot] = .er (badX K a lot k) [] := by
  have L : ∃ e, forD (gN 3) (l_f_check_lot_0 K) (mL intD lot) [N, il false lot, .lst true [], .jnk] = .er (badX K a lot k) e := by
    have hx : lot[k]? = some lot[k] := List.getElem?_eq_getElem hk
    have hax := aI_get hx
    have E : ∃ e, l_f_check_lot_0 K [N, il false lot, il true (lot.take k), intD lot[k]] = .er (badX K a lot k) e := by
      unfold badX
      rw [hax]
      by_cases h1 : 0 ≤ lot[k] ∧ lot[k] < a
      · have h3 : lot[k] ∈ lot.take k := by
          apply Classical.byContradiction
          intro h3
          exact h' ⟨by rw [hax]; exact h1, by rw [hax]; exact h3⟩
        have hd := hN.o.cdo h1
        rw [if_pos h1]
        refine ⟨?_, ?_⟩
        rotate_left
        · simp [l_f_check_lot_0, hN.o.jn, hN.f, hd, h3]
          rfl
      · have hd := hN.o.cde h1
        rw [if_neg h1]
        refine ⟨?_, ?_⟩
        rotate_left
        · simp [l_f_check_lot_0, hN.o.jn, hN.f, hd]
          rfl
    obtain ⟨e, E⟩ := E
    refine ⟨e, forD_mapS (g := gN 3) (b := l_f_check_lot_0 K) (en := intD) (xs := lot) (k := k) (fun i => [N, il false lot, il true (lot.take i), .jnk]) hk (fun i x hik hx => ⟨_, rfl, ?_⟩) (fun x hx2 => ⟨_, rfl, ?_⟩) (.inr ⟨_, _, rfl⟩) rfl⟩
    · obtain ⟨⟨h1, h2⟩, h3⟩ := h i hik
      rw [aI_get hx] at h1 h2 h3
      have hd := hN.o.cdo ⟨h1, h2⟩
      have hmn : min i lot.length < 16777216 := by omega
      simp [l_f_check_lot_0, hN.o.jn, hN.f, hd, h3, take_snoc hx, hmn]
    · rw [hx] at hx2
      cases hx2
      exact E
  obtain ⟨e, L⟩ := L
  simp [m_f_check_lot, fnD_e, b_f_check_lot, List.replicate, maskD, L]
theorem reach_c (hN : NetI K N a b qs lp jd) (hl : lot.length ≤ 20) (h : ∀ i < lot.length, good a lot i) : m_f_Network_reach K [N, il false lot] = .ok (il true (rch b qs lot)) [.jnk, .jnk] := by
  have b1 := hN.net.b1
  have b8 := hN.net.b8
  have hq := hN.net.len
  have hc := lot_ok hN hl h
  have C1 := lc_map (g := gT 2 (gsCons (gN 5) (gsCons (gN 4) gsNil))) (tt := tBl (eOp (gIn false) (eVar 5) (eVar 2))) (te := eCp 4) (vs := [5, 4]) (e0 := [N, il false lot, il false lot, .jnk, .jnk, .jnk]) (en := pairD) (en' := intD)
    qs (fun p => decide (p.1 ∈ lot)) (fun p => p.2) (fun p => [N, il false lot, il false lot, .jnk, intD p.2, intD p.1]) (fun ⟨x, y⟩ => by simp) (fun x => rfl) (fun x hx => by simp) (fun x hx _ => rfl) (by omega)
  obtain ⟨rs, hrs⟩ : ∃ rs, rs = (qs.filter fun p => decide (p.1 ∈ lot)).map (fun p => p.2) := ⟨_, rfl⟩
  rw [← hrs] at C1
  have C2 := lc_map (g := gN 4) (tt := tBl (eOp (gIn false) (eVar 4) (eVar 3))) (te := eCp 4) (vs := [4]) (e0 := [N, il false lot, il false lot, il false rs, .jnk, .jnk]) (en := intD) (en' := intD)
    (rI 0 b.toNat) (fun c => decide (c ∈ rs)) (fun c => c) _ (fun x => rfl) (fun x => rfl) (fun x hx => by simp) (fun x hx _ => rfl) (by simp; omega)
  rw [← rngD_int, List.map_id'] at C2
  have hr : rch b qs lot = (rI 0 b.toNat).filter (fun c => decide (c ∈ rs)) := by rw [rch, ← hrs]
  have r1 : -100000 ≤ b ∧ b ≤ 100000 := by omega
  rw [hr]
  simp [m_f_Network_reach, fnD_e, b_f_Network_reach, List.replicate, hN.o.fc, hN.o.fr, hN.o.jn, hN.f, hN.z, hc, C1, C2, r1, maskD]
theorem reach_e (hN : NetI K N a b qs lp jd) (hl : lot.length ≤ 20) (hk : k < lot.length) (h : ∀ i < k, good a lot i) (h' : ¬ good a lot k) : m_f_Network_reach K [N, il false lot] = .er (badX K a lot k) [] := by
  have hc := lot_er hN hl hk h h'
  simp [m_f_Network_reach, fnD_e, b_f_Network_reach, List.replicate, hN.o.jn, hN.f, hN.z, hc, maskD]
end
/-! the answers, as trees -/
def toldD (o : Bool) (xs : List Int) : D := .tup [.atm (.str "told"), il o xs]
def cusD (o : Bool) (a : Int) (qs : List (Int × Int)) (x : Int) : D := if 0 ≤ x ∧ x < a then toldD o ((qs.filter fun p => decide (p.1 = x)).map fun p => p.2) else refd "NoDepot" x
def depD (o : Bool) (b : Int) (qs : List (Int × Int)) (x : Int) : D := if 0 ≤ x ∧ x < b then toldD o ((qs.filter fun p => decide (p.2 = x)).map fun p => p.1) else refd "NoCustomer" x
def refP (p : Int × Int) : D := .tup [.atm (.str "refused"), .atm (.str "NoRoute"), pairD p]
def idxD (a b : Int) (qs : List (Int × Int)) (p : Int × Int) : D := if 0 ≤ p.1 ∧ p.1 < a then (if 0 ≤ p.2 ∧ p.2 < b then (match qs.findIdx? (fun z => decide (z = p)) with
  | some j => .tup [.atm (.str "told"), intD (j : Nat)]
  | none => refP p) else refd "NoCustomer" p.2) else refd "NoDepot" p.1
instance (a : Int) (lot : List Int) (k : Nat) : Decidable (good a lot k) := by unfold good; infer_instance
def fb (a : Int) (lot : List Int) : Option Nat := (List.range lot.length).find? fun k => decide (¬ good a lot k)
def rchD (o : Bool) (a b : Int) (qs : List (Int × Int)) (lot : List Int) : D := match fb a lot with
  | some k => refd (badN a lot k) (aI lot k)
  | none => toldD o (rch b qs lot)
theorem fb_cases (a : Int) (lot : List Int) : (fb a lot = none ∧ ∀ i < lot.length, good a lot i) ∨ ∃ k, fb a lot = some k ∧ k < lot.length ∧ (∀ i < k, good a lot i) ∧ ¬ good a lot k := by
  rcases first_bad (good a lot) lot.length with h | ⟨k, hk, h, h'⟩
  · refine .inl ⟨?_, h⟩
    unfold fb
    rw [List.find?_eq_none]
    intro i hi
    have := h i (List.mem_range.mp hi)
    simp [this]
  · refine .inr ⟨k, ?_, hk, h, h'⟩
    unfold fb
    rw [List.find?_range_eq_some]
    refine ⟨by simp [h'], List.mem_range.mpr hk, fun j hj => by simp [h j hj]⟩
end Lw
set_option Elab.async false
set_option linter.all false
set_option maxRecDepth 100000
set_option maxHeartbeats 2000000
namespace Lw
open PySem VS
variable {K : PySem.W.Frag} {Pg : Program} {mg : Str → Option Value}
theorem gEq_txt {x y : String} : gEq false (.atm (.str (Str.ofString x))) (.atm (.str (Str.ofString y))) = some (.atm (.bl (decide (Str.ofString x = Str.ofString y)))) := gEq_str (shaped_str (sok_of _)) (shaped_str (sok_of _))
section
variable {N : D} {a b lp x : Int} {qs : List (Int × Int)} {jd : Bool} {lot : List Int} {k : Nat}
theorem ask_cus (T : TX Pg K mg) (h : NetI K N a b qs lp jd) : m_f__law_ask K [N, .atm (.str "customers_of"), intD x] = .ok (cusD true a qs x) [.jnk, .jnk, .jnk] := by
  have e1 := gEq_txt (x := "customers_of") (y := "customers_of")
  have km := h.km "customers_of" (by decide +kernel)
  unfold cusD
  split
  · rename_i hx
    have c := cof_ok h hx
    simp [m_f__law_ask, fnD_e, b_f__law_ask, List.replicate, h.o.jn, h.f, e1, km, c, maskD, toldD]
  · rename_i hx
    have c := cof_er h hx
    have he := ref_NoDepot T (d := intD x) rfl
    have hm := T.exm_NoDepot
    simp [m_f__law_ask, fnD_e, b_f__law_ask, List.replicate, h.o.jn, h.f, e1, km, c, maskD, hm, gsL, he, refd]
theorem ask_dep (T : TX Pg K mg) (h : NetI K N a b qs lp jd) : m_f__law_ask K [N, .atm (.str "depots_of"), intD x] = .ok (depD true b qs x) [.jnk, .jnk, .jnk] := by
  have e1 := gEq_txt (x := "depots_of") (y := "customers_of")
  have e2 := gEq_txt (x := "depots_of") (y := "depots_of")
  have n1 : (Str.ofString "depots_of" = Str.ofString "customers_of") = False := eq_false (by decide +kernel)
  have km := h.km "depots_of" (by decide +kernel)
  simp only [n1, decide_false] at e1
  unfold depD
  split
  · rename_i hx
    have c := dof_ok h hx
    simp [m_f__law_ask, fnD_e, b_f__law_ask, List.replicate, h.o.jn, h.f, e1, e2, km, c, maskD, toldD]
  · rename_i hx
    have c := dof_er h hx
    have he := ref_NoCustomer T (d := intD x) rfl
    have hm := T.exm_NoCustomer
    simp [m_f__law_ask, fnD_e, b_f__law_ask, List.replicate, h.o.jn, h.f, e1, e2, km, c, maskD, hm, gsL, he, refd]
theorem ask_rch (T : TX Pg K mg) (h : NetI K N a b qs lp jd) (hl : lot.length ≤ 20) : m_f__law_ask K [N, .atm (.str "reach"), il false lot] = .ok (rchD true a b qs lot) [.jnk, .jnk, .jnk] := by
  have e1 := gEq_txt (x := "reach") (y := "customers_of")
  have e2 := gEq_txt (x := "reach") (y := "depots_of")
  have e3 := gEq_txt (x := "reach") (y := "reach")
  have n1 : (Str.ofString "reach" = Str.ofString "customers_of") = False := eq_false (by decide +kernel)
  have n2 : (Str.ofString "reach" = Str.ofString "depots_of") = False := eq_false (by decide +kernel)
  have km := h.km "reach" (by decide +kernel)
  simp only [n1, decide_false] at e1
  simp only [n2, decide_false] at e2
  unfold rchD
  rcases fb_cases a lot with ⟨hf, hg⟩ | ⟨k, hf, hk, hg, hb⟩
  · rw [hf]
    have c := reach_c h hl hg
    simp [m_f__law_ask, fnD_e, b_f__law_ask, List.replicate, h.o.jn, h.f, e1, e2, e3, km, c, maskD, toldD]
  · rw [hf]
    have c := reach_e h hl hk hg hb
    unfold badX at c
    show m_f__law_ask K [N, .atm (.str "reach"), il false lot] = .ok (refd (badN a lot k) (aI lot k)) [.jnk, .jnk, .jnk]
    unfold badN refd
    by_cases hx : 0 ≤ aI lot k ∧ aI lot k < a
    · rw [if_pos hx] at c ⊢
      have he := ref_Repeated T (d := intD (aI lot k)) rfl
      have hm := T.exm_Repeated
      simp [m_f__law_ask, fnD_e, b_f__law_ask, List.replicate, h.o.jn, h.f, e1, e2, e3, km, c, maskD, hm, gsL, he]
    · rw [if_neg hx] at c ⊢
      have he := ref_NoDepot T (d := intD (aI lot k)) rfl
      have hm := T.exm_NoDepot
      simp [m_f__law_ask, fnD_e, b_f__law_ask, List.replicate, h.o.jn, h.f, e1, e2, e3, km, c, maskD, hm, gsL, he]
theorem ask_idx (T : TX Pg K mg) (h : NetI K N a b qs lp jd) (p : Int × Int) : m_f__law_ask K [N, .atm (.str "index_of"), .tup [intD p.1, intD p.2]] = .ok (idxD a b qs p) [.jnk, .jnk, .jnk] := by
  have e1 := gEq_txt (x := "index_of") (y := "customers_of")
  have e2 := gEq_txt (x := "index_of") (y := "depots_of")
  have e3 := gEq_txt (x := "index_of") (y := "reach")
  have n1 : (Str.ofString "index_of" = Str.ofString "customers_of") = False := eq_false (by decide +kernel)
  have n2 : (Str.ofString "index_of" = Str.ofString "depots_of") = False := eq_false (by decide +kernel)
  have n3 : (Str.ofString "index_of" = Str.ofString "reach") = False := eq_false (by decide +kernel)
  have km := h.km "index_of" (by decide +kernel)
  simp only [n1, decide_false] at e1
  simp only [n2, decide_false] at e2
  simp only [n3, decide_false] at e3
  unfold idxD
  by_cases h1 : 0 ≤ p.1 ∧ p.1 < a
  · rw [if_pos h1]
    by_cases h2 : 0 ≤ p.2 ∧ p.2 < b
    · rw [if_pos h2]
      have hs := fi_some p qs
      cases hj : qs.findIdx? (fun z => decide (z = p)) with
      | some j =>
        rw [hj] at hs
        have h3 : p ∈ qs := of_decide_eq_true hs.symm
        have c := idx_ok h h1 h2 h3 hj
        simp [m_f__law_ask, fnD_e, b_f__law_ask, List.replicate, h.o.jn, h.f, e1, e2, e3, km, c, maskD]
      | none =>
        rw [hj] at hs
        have h3 : p ∉ qs := of_decide_eq_false hs.symm
        have c := idx_er h (rou_e3 h h1 h2 h3)
        have he : refL K knF (xRou K p) = some (.tup [.atm (.str "refused"), .atm (.str "NoRoute"), pairD p]) := ref_NoRoute T (by simp [pairD])
        have hm := T.exm_NoRoute
        simp [m_f__law_ask, fnD_e, b_f__law_ask, List.replicate, h.o.jn, h.f, e1, e2, e3, km, c, maskD, hm, gsL, he, refP]
    · rw [if_neg h2]
      have c := idx_er h (rou_e2 h h1 h2)
      have he := ref_NoCustomer T (d := intD p.2) rfl
      have hm := T.exm_NoCustomer
      simp [m_f__law_ask, fnD_e, b_f__law_ask, List.replicate, h.o.jn, h.f, e1, e2, e3, km, c, maskD, hm, gsL, he, refd]
  · rw [if_neg h1]
    have c := idx_er h (rou_e1 h h1)
    have he := ref_NoDepot T (d := intD p.1) rfl
    have hm := T.exm_NoDepot
    simp [m_f__law_ask, fnD_e, b_f__law_ask, List.replicate, h.o.jn, h.f, e1, e2, e3, km, c, maskD, hm, gsL, he, refd]
/-! due -/
theorem rch_due (hq : ∀ p ∈ qs, PR a b p) (hl : qs.length ≤ 16) (h : lot.length ≤ 20) : m_f__law_reach_due K [.tup [intD a, intD b], pl false qs, il false lot] = .ok (rchD true a b qs lot) [.jnk, .jnk, .jnk] := by
  unfold rchD
  rcases fb_cases a lot with ⟨hf, hg⟩ | ⟨k, hf, hk, hg, hb⟩
  · rw [hf]
    exact reach_good hq hl h hg
  · rw [hf]
    exact reach_bad h hk hg hb
theorem idx_due (hq : qs.length ≤ 16) (p : Int × Int) : m_f__law_index_due K [.tup [intD a, intD b], pl false qs, .tup [intD p.1, intD p.2]] = .ok (idxD a b qs p) [.jnk, .jnk, .jnk] := by
  unfold idxD
  by_cases h1 : 0 ≤ p.1 ∧ p.1 < a
  · rw [if_pos h1]
    by_cases h2 : 0 ≤ p.2 ∧ p.2 < b
    · rw [if_pos h2]
      have hs := fi_some p qs
      cases hj : qs.findIdx? (fun z => decide (z = p)) with
      | some j =>
        rw [hj] at hs
        have h3 : p ∈ qs := of_decide_eq_true hs.symm
        have gi := gIdx_pairs (o := false) hj
        simp [m_f__law_index_due, fnD_e, b_f__law_index_due, List.replicate, gIx, L2.atI, L2.ixN, h1.1, h1.2, h2.1, h2.2, h3, gi, maskD]
      | none =>
        rw [hj] at hs
        have h3 : p ∉ qs := of_decide_eq_false hs.symm
        simp [m_f__law_index_due, fnD_e, b_f__law_index_due, List.replicate, gIx, L2.atI, L2.ixN, h1.1, h1.2, h2.1, h2.2, h3, maskD, refP, pairD]
    · rw [if_neg h2]
      by_cases h3 : 0 ≤ p.2
      · have h4 : ¬ p.2 < b := fun z => h2 ⟨h3, z⟩
        simp [m_f__law_index_due, fnD_e, b_f__law_index_due, List.replicate, gIx, L2.atI, L2.ixN, h1.1, h1.2, h3, h4, maskD, refd]
      · simp [m_f__law_index_due, fnD_e, b_f__law_index_due, List.replicate, gIx, L2.atI, L2.ixN, h1.1, h1.2, h3, maskD, refd]
  · rw [if_neg h1]
    by_cases h3 : 0 ≤ p.1
    · have h4 : ¬ p.1 < a := fun z => h1 ⟨h3, z⟩
      simp [m_f__law_index_due, fnD_e, b_f__law_index_due, List.replicate, gIx, L2.atI, L2.ixN, h3, h4, maskD, refd]
    · simp [m_f__law_index_due, fnD_e, b_f__law_index_due, List.replicate, gIx, L2.atI, L2.ixN, h3, maskD, refd]
end
end Lw
set_option Elab.async false
set_option linter.all false
set_option maxRecDepth 100000
set_option maxHeartbeats 2000000
namespace Lw
open PySem VS
variable {K : PySem.W.Frag} {Pg : Program} {mg : Str → Option Value}
theorem pieces_due_ok {a b : Int} {ps : List (Int × Int)} (h : Net a b ps) :
    m_f__law_pieces_due K [.tup [intD a, intD b], pl false ps] = .ok (.lst true (mL (pieceD false) (pcs a b (labs a b ps) (a + b).toNat))) [.jnk, .jnk] := by
  have hlk := linked_ok (K := K) h
  obtain ⟨a1, a8, b1, b8, _, hp, _⟩ := h
  obtain ⟨c, hc⟩ : ∃ c : Nat, (c : Int) = a + b := ⟨(a + b).toNat, by omega⟩
  have hcn : (a + b).toNat = c := by omega
  obtain ⟨ls, hls⟩ : ∃ ls, ls = labs a b ps := ⟨_, rfl⟩
  have hlen : ls.length = c := by rw [hls]; simp [hcn]
  rw [← hls] at hlk ⊢
  have L := forD_rng (g := gN 5) (b := l_f__law_pieces_due_0 K) (lo := 0) (n := c) (fun i => [.tup [intD a, intD b], pl false ps, il false ls, intD a, .lst true (mL (pieceD false) (pcs a b ls i)), .jnk, .jnk, .jnk, .jnk, .jnk]) (fun i hi => ⟨_, rfl, by
    have g1 := gIx_at (o := false) (ls := ls) (x := i) (by omega) (by omega)
    have hpl := pcs_len a b ls i
    have hpl2 : (pcs a b ls i).length < 16777216 := by omega
    by_cases hk : aI ls i = i
    · have C1 := lc_map (g := gN 8) (tt := tBl (eOp (gEq false) (eOp gIx (eVar 2) (eVar 8)) (eVar 5))) (te := eCp 8) (vs := [8]) (e0 := [.tup [intD a, intD b], pl false ps, il false ls, intD a, .lst true (mL (pieceD false) (pcs a b ls i)), intD (0 + i), .jnk, .jnk, .jnk, .jnk]) (en := intD) (en' := intD)
        (rI 0 a.toNat) (fun x => decide (aI ls x = i)) (fun x => x) _ (fun x => rfl) (fun x => rfl) (fun x hx => by
          have hx := mem_rI.mp hx
          have g2 := gIx_at (o := false) (ls := ls) (x := x) (by omega) (by omega)
          simp [g2]) (fun x hx _ => rfl) (by simp; omega)
      have C2 := lc_map (g := gN 9) (tt := tBl (eOp (gEq false) (eOp gIx (eVar 2) (eOp gAdd (eVar 3) (eVar 9))) (eVar 5))) (te := eCp 9) (vs := [9]) (e0 := [.tup [intD a, intD b], pl false ps, il false ls, intD a, .lst true (mL (pieceD false) (pcs a b ls i)), intD (0 + i), il false ((rI 0 a.toNat).filter (fun x => decide (aI ls x = i))), .jnk, .jnk, .jnk]) (en := intD) (en' := intD)
        (rI 0 b.toNat) (fun x => decide (aI ls (a + x) = i)) (fun x => x) _ (fun x => rfl) (fun x => rfl) (fun x hx => by
          have hx := mem_rI.mp hx
          have g2 := gIx_at (o := false) (ls := ls) (x := a + x) (by omega) (by omega)
          simp [g2]) (fun x hx _ => rfl) (by simp; omega)
      rw [← rngD_int, List.map_id'] at C1 C2
      simp only [Int.zero_add] at C1 C2
      have r1 : -100000 ≤ a ∧ a ≤ 100000 := by omega
      have r2 : -100000 ≤ b ∧ b ≤ 100000 := by omega
      have hs : pcs a b ls (i + 1) = pcs a b ls i ++ [((rI 0 a.toNat).filter (fun x => decide (aI ls x = i)), (rI 0 b.toNat).filter (fun x => decide (aI ls (a + x) = i)))] := by
        simp [pcs, rI_succ, hk]
      simp [l_f__law_pieces_due_0, g1, hk, r1, r2, wipeE, C1, C2, hpl2, hs, pieceD]
    · have hs : pcs a b ls (i + 1) = pcs a b ls i := by simp [pcs, rI_succ, hk]
      simp [l_f__law_pieces_due_0, g1, hk, hs]⟩) rfl
  rw [show mL (pieceD false) (pcs a b ls 0) = [] from rfl] at L
  have r1 : c ≤ 100000 := by omega
  simp [m_f__law_pieces_due, fnD_e, b_f__law_pieces_due, List.replicate, hlk, hlen, r1, L, maskD, hcn]
def headD (o : Bool) (a b : Int) (qs : List (Int × Int)) (lp : Int) (jd : Bool) : List D := [intD a, intD b, pl o qs, intD lp, .atm (.bl jd), intD qs.length, .atm (.str (wrt a b qs)), .lst o (mL (pieceD o) (pcs a b (labs a b qs) (a + b).toNat))]
def r0 (o : Bool) (a b : Int) (qs : List (Int × Int)) : List D := (rI (-1) (a + 2).toNat).flatMap (fun x => [cusD o a qs x])
def r1 (o : Bool) (a b : Int) (qs : List (Int × Int)) : List D := (rI (-1) (b + 2).toNat).flatMap (fun x => [depD o b qs x])
def r2 (a b : Int) (qs asked : List (Int × Int)) : List D := asked.flatMap (fun p => [idxD a b qs p, .atm (.bl (decide (p ∈ qs)))])
def r3 (o : Bool) (a b : Int) (qs : List (Int × Int)) (lists : List (List Int)) : List D := lists.flatMap (fun l => [rchD o a b qs l])
theorem flat_len {α : Type} {F : α → List D} {c : Nat} (h : ∀ x, (F x).length = c) : ∀ xs : List α, (xs.flatMap F).length = xs.length * c
  | [] => by simp
  | x :: xs => by rw [List.flatMap_cons, List.length_append, h, flat_len h xs, List.length_cons, Nat.succ_mul, Nat.add_comm]
section
variable {N : D} {a b lp x : Int} {qs asked : List (Int × Int)} {lists : List (List Int)} {jd : Bool}
theorem told_ok (T : TX Pg K mg) (h : NetI K N a b qs lp jd) (hk : asked.length ≤ 100) (hl : lists.length ≤ 10) (hl2 : ∀ l ∈ lists, l.length ≤ 20) :
    m_f__law_all_told K [N, .tup [intD a, intD b], pl false asked, .lst false (mL (il false) lists)] = .ok (.lst true (headD true a b qs lp jd ++ r0 true a b qs ++ r1 true a b qs ++ r2 a b qs asked ++ r3 true a b qs lists)) [.jnk, .jnk, .jnk, .jnk] := by
  have a1 := h.net.a1
  have a8 := h.net.a8
  have b1 := h.net.b1
  have b8 := h.net.b8
  have hq := h.net.len
  have ht := h.o.txt (by omega) (by omega) h.net.inr hq h.f
  have gs := gStr_net h.o.ins h.f ht
  have gl := len_net h
  have km := h.km "pieces" (by decide +kernel)
  have pc := h.pc
  have l0 : (r0 true a b qs).length = (a + 2).toNat := by rw [r0, flat_len (F := fun x => [cusD true a qs x]) (c := 1) (fun _ => rfl)]; simp
  have l1 : (r1 true a b qs).length = (b + 2).toNat := by rw [r1, flat_len (F := fun x => [depD true b qs x]) (c := 1) (fun _ => rfl)]; simp
  have l2 : (r2 a b qs asked).length = asked.length * 2 := by rw [r2, flat_len (F := fun p => [idxD a b qs p, .atm (.bl (decide (p ∈ qs)))]) (c := 2) (fun _ => rfl)]
  have l3 : (r3 true a b qs lists).length = lists.length := by rw [r3, flat_len (F := fun l => [rchD true a b qs l]) (c := 1) (fun _ => rfl)]; simp
  obtain ⟨S, hS⟩ : ∃ S, S = D.tup [intD a, intD b] := ⟨_, rfl⟩
  have jS : isJ S = false := by rw [hS]; rfl
  have s0 : gIx S (.atm (.int 0)) = some (intD a) := by rw [hS]; simp [gIx, L2.atI, L2.ixN]
  have s1 : gIx S (.atm (.int 1)) = some (intD b) := by rw [hS]; simp [gIx, L2.atI, L2.ixN]
  rw [← hS]
  obtain ⟨LL, hLL⟩ : ∃ LL, LL = D.lst false (mL (il false) lists) := ⟨_, rfl⟩
  rw [← hLL]
  have fll : fzns (mL (il false) lists) = true := fzns_mL' _ (fun _ => by simp) _
  have jL : isJ LL = false := by rw [hLL]; rfl
  have fL : fzn LL = true := by rw [hLL]; simp [fll]
  have L0 := forD_flat (g := gN 5) (b := l_f__law_all_told_0 K) (en := intD) (fun x => [cusD true a qs x]) (fun acc => [N, S, pl false asked, LL, .lst true acc, .jnk, .jnk, .jnk, .jnk]) 1000 (rI (-1) (a + 2).toNat) (headD true a b qs lp jd) (fun x hx acc ha => ⟨_, rfl, by
    have c := ask_cus T h (x := x)
    have hl : acc.length < 16777216 := by omega
    simp [l_f__law_all_told_0, h.o.jn, h.f, c, hl]⟩) (by show (headD true a b qs lp jd).length + (r0 true a b qs).length ≤ _; rw [l0]; simp [headD]; omega)
  rw [show (rI (-1) (a + 2).toNat).flatMap (fun x => [cusD true a qs x]) = r0 true a b qs from rfl] at L0
  have L1 := forD_flat (g := gN 6) (b := l_f__law_all_told_1 K) (en := intD) (fun x => [depD true b qs x]) (fun acc => [N, S, pl false asked, LL, .lst true acc, .jnk, .jnk, .jnk, .jnk]) 1000 (rI (-1) (b + 2).toNat) (headD true a b qs lp jd ++ r0 true a b qs) (fun x hx acc ha => ⟨_, rfl, by
    have c := ask_dep T h (x := x)
    have hl : acc.length < 16777216 := by omega
    simp [l_f__law_all_told_1, h.o.jn, h.f, c, hl]⟩) (by show (headD true a b qs lp jd ++ r0 true a b qs).length + (r1 true a b qs).length ≤ _; rw [List.length_append, l0, l1]; simp [headD]; omega)
  rw [show (rI (-1) (b + 2).toNat).flatMap (fun x => [depD true b qs x]) = r1 true a b qs from rfl] at L1
  have L2 := forD_flat (g := gN 7) (b := l_f__law_all_told_2 K) (en := pairD) (fun p => [idxD a b qs p, .atm (.bl (decide (p ∈ qs)))]) (fun acc => [N, S, pl false asked, LL, .lst true acc, .jnk, .jnk, .jnk, .jnk]) 1000 asked (headD true a b qs lp jd ++ r0 true a b qs ++ r1 true a b qs) (fun ⟨u, v⟩ hx acc ha => ⟨_, rfl, by
    have c := ask_idx T h (u, v)
    have c2 := in_net h (u, v)
    simp only [List.length_cons, List.length_nil] at ha
    have hl : acc.length < 16777216 := by omega
    have hl2 : acc.length + 1 < 16777216 := by omega
    simp [l_f__law_all_told_2, h.o.jn, h.f, c, c2, hl, hl2]⟩) (by show (headD true a b qs lp jd ++ r0 true a b qs ++ r1 true a b qs).length + (r2 a b qs asked).length ≤ _; rw [List.length_append, List.length_append, l0, l1, l2]; simp [headD]; omega)
  rw [show asked.flatMap (fun p => [idxD a b qs p, .atm (.bl (decide (p ∈ qs)))]) = r2 a b qs asked from rfl] at L2
  have L3 := forD_flat (g := gN 8) (b := l_f__law_all_told_3 K) (en := il false) (fun l => [rchD true a b qs l]) (fun acc => [N, S, pl false asked, LL, .lst true acc, .jnk, .jnk, .jnk, .jnk]) 1000 lists (headD true a b qs lp jd ++ r0 true a b qs ++ r1 true a b qs ++ r2 a b qs asked) (fun l hx acc ha => ⟨_, rfl, by
    have ll := hl2 l hx
    have c := ask_rch T h ll
    have hl : acc.length < 16777216 := by simp at ha; omega
    have hl3 : l.length < 16777216 := by omega
    simp [l_f__law_all_told_3, h.o.jn, h.f, c, hl, hl3]⟩) (by show (headD true a b qs lp jd ++ r0 true a b qs ++ r1 true a b qs ++ r2 a b qs asked).length + (r3 true a b qs lists).length ≤ _; rw [List.length_append, List.length_append, List.length_append, l0, l1, l2, l3]; simp [headD]; omega)
  rw [show lists.flatMap (fun l => [rchD true a b qs l]) = r3 true a b qs lists from rfl] at L3
  rw [← rngD_int] at L0 L1
  have q1 : kISeq (M.ok (.val LL) [N, S, pl false asked, LL, .lst true (headD true a b qs lp jd ++ r0 true a b qs ++ r1 true a b qs ++ r2 a b qs asked), .jnk, .jnk, .jnk, .jnk]) = .ok (mL (il false) lists) [N, S, pl false asked, LL, .lst true (headD true a b qs lp jd ++ r0 true a b qs ++ r1 true a b qs ++ r2 a b qs asked), .jnk, .jnk, .jnk, .jnk] := by rw [hLL]; simp [fll]
  have ra : -100000 ≤ a + 1 ∧ a + 1 ≤ 100000 := by omega
  have rb : -100000 ≤ b + 1 ∧ b + 1 ≤ 100000 := by omega
  have ea : (a + 1 + 1).toNat = (a + 2).toNat := by omega
  have eb : (b + 1 + 1).toNat = (b + 2).toNat := by omega
  have hd : headD true a b qs lp jd = [intD a, intD b, pl true qs, intD lp, .atm (.bl jd), intD qs.length, .atm (.str (wrt a b qs)), .lst true (mL (pieceD true) (pcs a b (labs a b qs) (a + b).toNat))] := rfl
  generalize hPC : D.lst true (mL (pieceD true) (pcs a b (labs a b qs) (a + b).toNat)) = PC at *
  generalize headD true a b qs lp jd = HD at *
  subst hd
  generalize r0 true a b qs = R0 at *
  generalize r1 true a b qs = R1 at *
  generalize r2 a b qs asked = R2 at *
  generalize r3 true a b qs lists = R3 at *
  simp only [List.cons_append, List.nil_append, List.append_assoc] at L0 L1 L2 L3 q1
  simp [m_f__law_all_told, fnD_e, b_f__law_all_told, List.replicate, h.o.jn, h.f, jS, jL, fL, s0, s1, h.o.kp, h.o.dep, h.o.cus, h.o.rou, h.o.lop, h.o.joi, gl, gs, km, pc, ra, rb, ea, eb, L0, L1, L2, L3, q1, maskD]
end
end Lw
set_option Elab.async false
set_option linter.all false
set_option maxRecDepth 100000
set_option maxHeartbeats 2000000
namespace Lw
open PySem VS
variable {K : PySem.W.Frag} {Pg : Program} {mg : Str → Option Value}
def headU (a b : Int) (qs : List (Int × Int)) (lp : Int) (jd : Bool) : List D := [intD a, intD b, pl true qs, intD lp, .atm (.bl jd), intD qs.length, .atm (.str (wrt a b qs)), .lst false (mL (pieceD false) (pcs a b (labs a b qs) (a + b).toNat))]
theorem rI_ends {n : Int} (h : 0 ≤ n) : rI (-1) (n + 2).toNat = -1 :: (rI 0 n.toNat ++ [n]) := by
  have e : (n + 2).toNat = 1 + (n.toNat + 1) := by omega
  rw [e, rI_app, rI_app]
  have e2 : (-1 : Int) + ((1 : Nat) : Int) = 0 := by omega
  rw [e2]
  have e3 : (0 : Int) + (n.toNat : Int) = n := by omega
  rw [e3]
  simp [rI]
section
variable {a b lp x : Int} {qs asked : List (Int × Int)} {lists : List (List Int)} {jd : Bool}
theorem due_ok (hn : Net a b qs) (hlp : lp = qs.length - a - b + (pcs a b (labs a b qs) (a + b).toNat).length) (hjd : jd = decide (((pcs a b (labs a b qs) (a + b).toNat).length : Int) = 1)) (hk : asked.length ≤ 100) (hl : lists.length ≤ 10) (hl2 : ∀ l ∈ lists, l.length ≤ 20) :
    m_f__law_all_due K [.tup [intD a, intD b], pl false qs, pl false asked, .lst false (mL (il false) lists)] = .ok (.lst true (headU a b qs lp jd ++ r0 true a b qs ++ r1 true a b qs ++ r2 a b qs asked ++ r3 true a b qs lists)) [.jnk, .jnk, .jnk, .jnk] := by
  have a1 := hn.a1
  have a8 := hn.a8
  have b1 := hn.b1
  have b8 := hn.b8
  have hq := hn.len
  have hpd := pieces_due_ok (K := K) hn
  have hw := written_ok (K := K) (a := a) (b := b) (qs := qs) (by omega) (by omega) hn.inr hq
  have hpl := pcs_len a b (labs a b qs) (a + b).toNat
  obtain ⟨LL, hLL⟩ : ∃ LL, LL = D.lst false (mL (il false) lists) := ⟨_, rfl⟩
  rw [← hLL]
  have fll : fzns (mL (il false) lists) = true := fzns_mL' _ (fun _ => by simp) _
  have jL : isJ LL = false := by rw [hLL]; rfl
  have fL : fzn LL = true := by rw [hLL]; simp [fll]
  obtain ⟨PCS, hPCS⟩ : ∃ PCS, PCS = pcs a b (labs a b qs) (a + b).toNat := ⟨_, rfl⟩
  unfold headU
  rw [← hPCS] at hpd hpl hlp hjd ⊢
  obtain ⟨S, hS⟩ : ∃ S, S = D.tup [intD a, intD b] := ⟨_, rfl⟩
  have jS : isJ S = false := by rw [hS]; rfl
  have fS : fzn S = true := by rw [hS]; simp
  have s0 : gIx S (.atm (.int 0)) = some (intD a) := by rw [hS]; simp [gIx, L2.atI, L2.ixN]
  have s1 : gIx S (.atm (.int 1)) = some (intD b) := by rw [hS]; simp [gIx, L2.atI, L2.ixN]
  have R3 : ∀ l ∈ lists, m_f__law_reach_due K [S, pl false qs, il false l] = .ok (rchD true a b qs l) [.jnk, .jnk, .jnk] := fun l hm => by rw [hS]; exact rch_due hn.inr hq (hl2 l hm)
  have R2 : ∀ p : Int × Int, m_f__law_index_due K [S, pl false qs, .tup [intD p.1, intD p.2]] = .ok (idxD a b qs p) [.jnk, .jnk, .jnk] := fun p => by rw [hS]; exact idx_due hq p
  rw [← hS] at hpd hw ⊢
  obtain ⟨PD, hPD⟩ : ∃ PD, PD = D.lst false (mL (pieceD false) PCS) := ⟨_, rfl⟩
  have jP : isJ PD = false := by rw [hPD]; rfl
  have fP : fzn PD = true := by rw [hPD]; simp
  have gP : gLen [PD] = some (intD (PCS.length : Int)) := by
    have : PCS.length < 16777216 := by omega
    rw [hPD]; simp [this]
  have zP : fz (.lst true (mL (pieceD false) PCS)) = PD := by rw [hPD]; simp
  have w0 : r0 true a b qs = [refd "NoDepot" (-1)] ++ (rI 0 a.toNat).flatMap (fun x => [cusD true a qs x]) ++ [refd "NoDepot" a] := by
    have n1 : ¬ (0 ≤ (-1 : Int) ∧ (-1 : Int) < a) := by omega
    have n2 : ¬ (0 ≤ a ∧ a < a) := by omega
    rw [r0, rI_ends (by omega), List.flatMap_cons, List.flatMap_append, List.flatMap_cons, List.flatMap_nil]
    simp [cusD, n1, n2]
  have w1 : r1 true a b qs = [refd "NoCustomer" (-1)] ++ (rI 0 b.toNat).flatMap (fun x => [depD true b qs x]) ++ [refd "NoCustomer" b] := by
    have n1 : ¬ (0 ≤ (-1 : Int) ∧ (-1 : Int) < b) := by omega
    have n2 : ¬ (0 ≤ b ∧ b < b) := by omega
    rw [r1, rI_ends (by omega), List.flatMap_cons, List.flatMap_append, List.flatMap_cons, List.flatMap_nil]
    simp [depD, n1, n2]
  have L0 := fun (acc : List D) (ha : acc.length ≤ 100) => forD_flat (g := gN 7) (b := l_f__law_all_due_0 K) (en := intD) (fun x => [cusD true a qs x]) (fun acc => [S, pl false qs, pl false asked, LL, PD, intD lp, .lst true acc, .jnk, .jnk, .jnk, .jnk]) 1000 (rI 0 a.toNat) acc (fun x hx acc ha => ⟨_, rfl, by
    have hx := mem_rI.mp hx
    have hx2 : 0 ≤ x ∧ x < a := by omega
    have C := lc_map (g := gN 10) (tt := tBl (eOp (gEq false) (eOp gIx (eVar 10) (eC (.int 0))) (eVar 7))) (te := eOp gIx (eVar 10) (eC (.int 1))) (vs := [10]) (e0 := [S, pl false qs, pl false asked, LL, PD, intD lp, .lst true acc, intD x, .jnk, .jnk, .jnk]) (en := pairD) (en' := intD)
      qs (fun p => decide (p.1 = x)) (fun p => p.2) (fun p => [S, pl false qs, pl false asked, LL, PD, intD lp, .lst true acc, intD x, .jnk, .jnk, pairD p]) (fun x => rfl) (fun x => rfl) (fun ⟨u, v⟩ hx => by simp [gIx, L2.atI, L2.ixN]) (fun ⟨u, v⟩ hx _ => by simp [gIx, L2.atI, L2.ixN]) (by omega)
    have hl : acc.length < 16777216 := by omega
    simp [l_f__law_all_due_0, C, hl, cusD, hx2, toldD]⟩) (by rw [flat_len (F := fun x => [cusD true a qs x]) (c := 1) (fun _ => rfl)]; simp; omega)
  have L1 := fun (acc : List D) (ha : acc.length ≤ 100) => forD_flat (g := gN 8) (b := l_f__law_all_due_1 K) (en := intD) (fun x => [depD true b qs x]) (fun acc => [S, pl false qs, pl false asked, LL, PD, intD lp, .lst true acc, .jnk, .jnk, .jnk, .jnk]) 1000 (rI 0 b.toNat) acc (fun x hx acc ha => ⟨_, rfl, by
    have hx := mem_rI.mp hx
    have hx2 : 0 ≤ x ∧ x < b := by omega
    have C := lc_map (g := gN 10) (tt := tBl (eOp (gEq false) (eOp gIx (eVar 10) (eC (.int 1))) (eVar 8))) (te := eOp gIx (eVar 10) (eC (.int 0))) (vs := [10]) (e0 := [S, pl false qs, pl false asked, LL, PD, intD lp, .lst true acc, .jnk, intD x, .jnk, .jnk]) (en := pairD) (en' := intD)
      qs (fun p => decide (p.2 = x)) (fun p => p.1) (fun p => [S, pl false qs, pl false asked, LL, PD, intD lp, .lst true acc, .jnk, intD x, .jnk, pairD p]) (fun x => rfl) (fun x => rfl) (fun ⟨u, v⟩ hx => by simp [gIx, L2.atI, L2.ixN]) (fun ⟨u, v⟩ hx _ => by simp [gIx, L2.atI, L2.ixN]) (by omega)
    have hl : acc.length < 16777216 := by omega
    simp [l_f__law_all_due_1, C, hl, depD, hx2, toldD]⟩) (by rw [flat_len (F := fun x => [depD true b qs x]) (c := 1) (fun _ => rfl)]; simp; omega)
  have L2 := fun (acc : List D) (ha : acc.length ≤ 100) => forD_flat (g := gN 9) (b := l_f__law_all_due_2 K) (en := pairD) (fun p => [idxD a b qs p, .atm (.bl (decide (p ∈ qs)))]) (fun acc => [S, pl false qs, pl false asked, LL, PD, intD lp, .lst true acc, .jnk, .jnk, .jnk, .jnk]) 1000 asked acc (fun ⟨u, v⟩ hx acc ha => ⟨_, rfl, by
    have c := R2 (u, v)
    simp only [List.length_cons, List.length_nil] at ha
    have hl : acc.length < 16777216 := by omega
    have hl2 : acc.length + 1 < 16777216 := by omega
    simp [l_f__law_all_due_2, jS, fS, c, hl, hl2]⟩) (by rw [flat_len (F := fun p => [idxD a b qs p, .atm (.bl (decide (p ∈ qs)))]) (c := 2) (fun _ => rfl)]; omega)
  have L3 := fun (acc : List D) (ha : acc.length ≤ 500) => forD_flat (g := gN 10) (b := l_f__law_all_due_3 K) (en := il false) (fun l => [rchD true a b qs l]) (fun acc => [S, pl false qs, pl false asked, LL, PD, intD lp, .lst true acc, .jnk, .jnk, .jnk, .jnk]) 1000 lists acc (fun l hx acc ha => ⟨_, rfl, by
    have c := R3 l hx
    have hl : acc.length < 16777216 := by simp at ha; omega
    simp [l_f__law_all_due_3, jS, fS, c, hl]⟩) (by rw [flat_len (F := fun l => [rchD true a b qs l]) (c := 1) (fun _ => rfl)]; omega)
  rw [show asked.flatMap (fun p => [idxD a b qs p, .atm (.bl (decide (p ∈ qs)))]) = r2 a b qs asked from rfl] at L2
  rw [show lists.flatMap (fun l => [rchD true a b qs l]) = r3 true a b qs lists from rfl] at L3
  rw [← rngD_int] at L0 L1
  have f0 : ((rI 0 a.toNat).flatMap (fun x => [cusD true a qs x])).length ≤ 8 := by rw [flat_len (F := fun x => [cusD true a qs x]) (c := 1) (fun _ => rfl)]; simp; omega
  have f1 : ((rI 0 b.toNat).flatMap (fun x => [depD true b qs x])).length ≤ 8 := by rw [flat_len (F := fun x => [depD true b qs x]) (c := 1) (fun _ => rfl)]; simp; omega
  have f2 : (r2 a b qs asked).length ≤ 200 := by rw [r2, flat_len (F := fun p => [idxD a b qs p, .atm (.bl (decide (p ∈ qs)))]) (c := 2) (fun _ => rfl)]; omega
  have q1 : ∀ e : EnvD, kISeq (M.ok (.val LL) e) = .ok (mL (il false) lists) e := fun e => by rw [hLL]; simp [fll]
  have ra : -100000 ≤ a ∧ a ≤ 100000 := by omega
  have rb : -100000 ≤ b ∧ b ≤ 100000 := by omega
  have hq2 : qs.length < 16777216 := by omega
  rw [w0, w1]
  generalize (rI 0 a.toNat).flatMap (fun x => [cusD true a qs x]) = C0 at *
  generalize (rI 0 b.toNat).flatMap (fun x => [depD true b qs x]) = C1 at *
  generalize r2 a b qs asked = C2 at *
  generalize r3 true a b qs lists = C3 at *
  have M0 := L0 [intD a, intD b, pl true qs, intD lp, .atm (.bl jd), intD qs.length, .atm (.str (wrt a b qs)), PD, refd "NoDepot" (-1)] (by simp)
  have M1 := L1 ([intD a, intD b, pl true qs, intD lp, .atm (.bl jd), intD qs.length, .atm (.str (wrt a b qs)), PD, refd "NoDepot" (-1)] ++ C0 ++ [refd "NoDepot" a] ++ [refd "NoCustomer" (-1)]) (by simp; omega)
  have M2 := L2 ([intD a, intD b, pl true qs, intD lp, .atm (.bl jd), intD qs.length, .atm (.str (wrt a b qs)), PD, refd "NoDepot" (-1)] ++ C0 ++ [refd "NoDepot" a] ++ [refd "NoCustomer" (-1)] ++ C1 ++ [refd "NoCustomer" b]) (by simp; omega)
  have M3 := L3 ([intD a, intD b, pl true qs, intD lp, .atm (.bl jd), intD qs.length, .atm (.str (wrt a b qs)), PD, refd "NoDepot" (-1)] ++ C0 ++ [refd "NoDepot" a] ++ [refd "NoCustomer" (-1)] ++ C1 ++ [refd "NoCustomer" b] ++ C2) (by simp; omega)
  have i1 : C0.length + 1 + 1 + 1 + 1 + 1 + 1 + 1 + 1 + 1 < 16777216 := by omega
  have i2 : C0.length + 1 + 1 + 1 + 1 + 1 + 1 + 1 + 1 + 1 + 1 < 16777216 := by omega
  have i3 : C0.length + (C1.length + 1 + 1) + 1 + 1 + 1 + 1 + 1 + 1 + 1 + 1 + 1 < 16777216 := by omega
  simp only [List.cons_append, List.nil_append, List.append_assoc, refd] at M0 M1 M2 M3
  have hjd2 : decide ((PCS.length : Int) = 1) = jd := hjd.symm
  have hlp2 : (qs.length : Int) - a - b + (PCS.length : Int) = lp := hlp.symm
  have hl1 : C0.length + 9 < 16777216 := by omega
  have hl2 : C0.length + 10 < 16777216 := by omega
  have hl3 : C0.length + (C1.length + 11) < 16777216 := by omega
  have hl4 : C0.length + 1 + 9 < 16777216 := by omega
  rw [← hPD]
  simp [m_f__law_all_due, fnD_e, b_f__law_all_due, List.replicate, jS, fS, jL, fL, jP, fP, zP, s0, s1, hpd, hw, gP, hq2, hlp2, hjd2, ra, rb, M0, M1, M2, M3, q1, maskD, refd, hl1, hl2, hl3, hl4, i1, i2, i3]
end
end Lw
set_option Elab.async false
set_option linter.all false
set_option maxRecDepth 100000
set_option maxHeartbeats 2000000
namespace Lw
open PySem VS
variable {K : PySem.W.Frag} {Pg : Program} {mg : Str → Option Value}
theorem gAdd_pl {o o' : Bool} {xs ys : List (Int × Int)} (h : xs.length + ys.length ≤ 100000) : gAdd (pl o xs) (pl o' ys) = some (pl true (xs ++ ys)) := by
  unfold gAdd
  have : (mL pairD xs).length + (mL pairD ys).length ≤ 16777216 := by simp; omega
  simp only [pl, fzns_mL, this, decide_true, Bool.and_self, if_true]
  simp [mL]
theorem fzs_map (ds : List D) : fzs ds = ds.map fz := by
  induction ds with
  | nil => rfl
  | cons d ds ih => rw [fzs_cons, ih, List.map_cons]
theorem cutX_drop {α : Type} (xs : List α) (k : Nat) (h : k ≤ xs.length) : cutX xs (some (k : Int)) none = xs.drop k := by
  unfold cutX
  have e1 : HT.sIx xs.length 0 (some (k : Int)) = k := by
    rw [HT.sIx_nat]
    omega
  have e2 : HT.sIx xs.length xs.length none = xs.length := rfl
  rw [e1, e2]
  exact List.take_of_length_le (by simp)
theorem right_core {N S R O O0 A A' LS h0 h1 h3 h4 h5 h6 : D} {xs ys RS UL FL : List D} (jN : isJ N = false) (fN : fzn N = true) (jS : isJ S = false) (fS : fzn S = true) (jR : isJ R = false) (fR : fzn R = true) (jO : isJ O = false) (fO : fzn O = true) (jA : isJ A = false) (fA : fzn A = true) (jL : isJ LS = false) (fL : fzn LS = true)
    (o0 : gIx O (.atm (.int 0)) = some O0) (o1 : gIx O (.atm (.int 1)) = some LS) (hadd : gAdd R O0 = some A') (hA : fz A' = A)
    (told : m_f__law_all_told K [N, S, A, LS] = .ok (.lst true (h0 :: h1 :: .lst true xs :: h3 :: h4 :: h5 :: h6 :: .lst true ys :: RS)) [.jnk, .jnk, .jnk, .jnk])
    (due : m_f__law_all_due K [S, R, A, LS] = .ok (.lst true UL) [.jnk, .jnk, .jnk, .jnk])
    (e1 : fzs (h0 :: h1 :: .lst true xs :: h3 :: h4 :: h5 :: h6 :: .lst true ys :: RS) = FL) (e2 : fzs UL = FL)
    (same : m_f__law_sameR K 5 [.lst false FL, .lst false FL] = .ok (.atm (.bl true)) [.jnk, .jnk]) (hxs : xs.length < 16777216) (hRS : RS.length ≤ 1000)
    (P1 : forD (gN 6) (l_f__law_right_0 K) ys [N, S, R, O, A, .jnk, .jnk, .jnk] = .ok .nx [N, S, R, O, A, .jnk, .jnk, .jnk])
    (P2 : forD (gN 7) (l_f__law_right_1 K) RS [N, S, R, O, A, .jnk, .jnk, .jnk] = .ok .nx [N, S, R, O, A, .jnk, .jnk, .jnk]) :
    m_f__law_right K [N, S, R, O] = .ok (.atm (.bl true)) [.jnk, .jnk, .jnk, .jnk] := by
  have zN := fz_id N fN
  have zS := fz_id S fS
  have zR := fz_id R fR
  have zO := fz_id O fO
  have zA := fz_id A fA
  have fF : fzns FL = true := by rw [← e1]; exact fzns_fzs _
  have ex : ∀ (n : Nat) (k : Nat), k < n → L2.ixN n (k : Int) = some k := fun n k h => by simp [L2.ixN, h]
  have x2 : L2.ixN (RS.length + 1 + 1 + 1 + 1 + 1 + 1 + 1 + 1) 2 = some 2 := ex _ 2 (by omega)
  have x7 : L2.ixN (RS.length + 1 + 1 + 1 + 1 + 1 + 1 + 1 + 1) 7 = some 7 := ex _ 7 (by omega)
  have cd : ∀ (d0 d1 d2 d3 d4 d5 d6 d7 : D), cutX (d0 :: d1 :: d2 :: d3 :: d4 :: d5 :: d6 :: d7 :: RS) (some 8) none = RS := fun d0 d1 d2 d3 d4 d5 d6 d7 => cutX_drop _ 8 (by simp)
  have mr : ∀ zs : List D, mRev zs [] = some (zs.reverse, .atm .non) := fun _ => rfl
  simp only [fzs_cons, fz_lst] at e1
  simp [m_f__law_right, fnD_e, b_f__law_right, List.replicate, jN, fN, jS, fS, jR, fR, jO, fO, jA, fA, jL, fL, zN, zS, zR, zO, zA, o0, o1, hadd, hA, told, due, e1, e2, fF, m_f__law_same, same, fzn_fz, fzns_fzs, kids, box, x2, x7, mr, hxs, P1, P2, cd, maskD]
end Lw
set_option Elab.async false
set_option linter.all false
set_option maxRecDepth 100000
set_option maxHeartbeats 2000000
namespace Lw
open PySem VS
variable {K : PySem.W.Frag} {Pg : Program} {mg : Str → Option Value}
/-- one told answer -/
inductive Ans : D → Prop where
  | bl (b : Bool) : Ans (.atm (.bl b))
  | told (xs : List Int) (h : xs.length ≤ 100) : Ans (toldD true xs)
  | refd (n : String) (x : Int) : Ans (refd n x)
  | refP (p : Int × Int) : Ans (refP p)
  | idx (j : Int) : Ans (.tup [.atm (.str "told"), intD j])
theorem pl_ints {k : Nat} {xs : List Int} (h : xs.length ≤ 1000) : Pl (k + 1) (il false xs) :=
  .lst k _ (by simpa using h) (by simp) fun d hd => by
    obtain ⟨p, _, rfl⟩ := List.mem_map.mp hd
    exact .int _ _
theorem pl_pair {k : Nat} {p : Int × Int} : Pl (k + 1) (pairD p) :=
  .tup k _ (by simp) rfl fun d hd => by
    simp at hd
    rcases hd with rfl | rfl <;> exact .int _ _
theorem Ans.pl {d : D} (h : Ans d) : Pl 3 (fz d) := by
  cases h with
  | bl b => exact .bl _ _
  | told xs h =>
    have e : fz (toldD true xs) = .tup [.atm (.str "told"), il false xs] := by simp [toldD]
    rw [e]
    exact .tup 2 _ (by simp) (by simp) fun d hd => by
      simp at hd
      rcases hd with rfl | rfl
      · exact .str _ _ (sok_of _)
      · exact pl_ints (k := 1) (by omega)
  | refd n x =>
    exact .tup 2 _ (by simp) (by simp) fun d hd => by
      simp at hd
      rcases hd with rfl | rfl | rfl
      · exact .str _ _ (sok_of _)
      · exact .str _ _ (sok_of _)
      · exact .int _ _
  | refP p =>
    have e : fz (Lw.refP p) = Lw.refP p := by simp [Lw.refP, pairD]
    rw [e]
    exact .tup 2 _ (by simp) (by simp [pairD]) fun d hd => by
      simp at hd
      rcases hd with rfl | rfl | rfl
      · exact .str _ _ (sok_of _)
      · exact .str _ _ (sok_of _)
      · exact pl_pair (k := 1)
  | idx j =>
    exact .tup 2 _ (by simp) (by simp) fun d hd => by
      simp at hd
      rcases hd with rfl | rfl
      · exact .str _ _ (sok_of _)
      · exact .int _ _
theorem Ans.step {d e0 e1 e2 e3 e4 : D} (h : Ans d) : l_f__law_right_1 K [e0, e1, e2, e3, e4, .jnk, .jnk, d] = .ok .nx [e0, e1, e2, e3, e4, .jnk, .jnk, .jnk] := by
  cases h with
  | bl b => simp [l_f__law_right_1]
  | told xs h =>
    have hl : xs.length < 16777216 := by omega
    simp [l_f__law_right_1, toldD, gIx, L2.atI, L2.ixN, kids, box, hl]
  | refd n x => simp [l_f__law_right_1, Lw.refd, gIx, L2.atI, L2.ixN]
  | refP p => simp [l_f__law_right_1, Lw.refP, pairD, gIx, L2.atI, L2.ixN]
  | idx j => simp [l_f__law_right_1, gIx, L2.atI, L2.ixN]
theorem ans_loop {e0 e1 e2 e3 e4 : D} : ∀ ds : List D, (∀ d ∈ ds, Ans d) → forD (gN 7) (l_f__law_right_1 K) ds [e0, e1, e2, e3, e4, .jnk, .jnk, .jnk] = .ok .nx [e0, e1, e2, e3, e4, .jnk, .jnk, .jnk]
  | [], _ => rfl
  | d :: ds, h => by
    rw [forD_c1 (e1 := [e0, e1, e2, e3, e4, .jnk, .jnk, d]) rfl (h d List.mem_cons_self).step]
    exact ans_loop ds fun x hx => h x (List.mem_cons_of_mem _ hx)
theorem piece_loop {e0 e1 e2 e3 e4 : D} : ∀ ps : List (List Int × List Int), (∀ p ∈ ps, p.1.length ≤ 8 ∧ p.2.length ≤ 8) → forD (gN 6) (l_f__law_right_0 K) (mL (pieceD true) ps) [e0, e1, e2, e3, e4, .jnk, .jnk, .jnk] = .ok .nx [e0, e1, e2, e3, e4, .jnk, .jnk, .jnk]
  | [], _ => rfl
  | p :: ps, h => by
    obtain ⟨h1, h2⟩ := h p List.mem_cons_self
    have hl1 : p.1.length < 16777216 := by omega
    have hl2 : p.2.length < 16777216 := by omega
    rw [mL_cons, forD_c1 (e1 := [e0, e1, e2, e3, e4, .jnk, pieceD true p, .jnk]) (e2 := [e0, e1, e2, e3, e4, .jnk, .jnk, .jnk]) rfl (by
      simp [l_f__law_right_0, pieceD, L2.ixN, kids, box, hl1, hl2])]
    exact piece_loop ps fun x hx => h x (List.mem_cons_of_mem _ hx)
theorem pcs_in {a b : Int} {ls : List Int} {n : Nat} {p : List Int × List Int} (a8 : a ≤ 8) (b8 : b ≤ 8) (h : p ∈ pcs a b ls n) : p.1.length ≤ 8 ∧ p.2.length ≤ 8 := by
  obtain ⟨k, _, rfl⟩ := List.mem_map.mp h
  exact ⟨Nat.le_trans (List.length_filter_le _ _) (by simp; omega), Nat.le_trans (List.length_filter_le _ _) (by simp; omega)⟩
theorem rch_len {b : Int} {qs : List (Int × Int)} {lot : List Int} (b8 : b ≤ 8) : (rch b qs lot).length ≤ 8 := Nat.le_trans (List.length_filter_le _ _) (by simp; omega)
section
variable {N : D} {a b lp x : Int} {qs as : List (Int × Int)} {lists : List (List Int)} {jd : Bool}
theorem ans_all (hn : Net a b qs) (d : D) (h : d ∈ r0 true a b qs ++ r1 true a b qs ++ r2 a b qs as ++ r3 true a b qs lists) : Ans d := by
  have hq := hn.len
  have b8 := hn.b8
  rcases List.mem_append.mp h with h | h
  · rcases List.mem_append.mp h with h | h
    · rcases List.mem_append.mp h with h | h
      · obtain ⟨x, _, hx⟩ := List.mem_flatMap.mp h
        simp at hx
        subst hx
        unfold cusD
        split
        · refine .told _ ?_
          rw [List.length_map]
          have := List.length_filter_le (fun p : Int × Int => decide (p.1 = x)) qs
          omega
        · exact .refd _ _
      · obtain ⟨x, _, hx⟩ := List.mem_flatMap.mp h
        simp at hx
        subst hx
        unfold depD
        split
        · refine .told _ ?_
          rw [List.length_map]
          have := List.length_filter_le (fun p : Int × Int => decide (p.2 = x)) qs
          omega
        · exact .refd _ _
    · obtain ⟨p, _, hx⟩ := List.mem_flatMap.mp h
      simp at hx
      rcases hx with rfl | rfl
      · unfold idxD
        split
        · split
          · split
            · exact .idx _
            · exact .refP _
          · exact .refd _ _
        · exact .refd _ _
      · exact .bl _
  · obtain ⟨l, _, hx⟩ := List.mem_flatMap.mp h
    simp at hx
    subst hx
    unfold rchD
    split
    · exact .refd _ _
    · exact .told _ (by have := rch_len (qs := qs) (lot := l) b8; omega)
theorem fz_pieces (ps : List (List Int × List Int)) : fzs (mL (pieceD true) ps) = mL (pieceD false) ps := by
  rw [fzs_map]
  unfold mL
  rw [List.map_map]
  refine List.map_congr_left fun p _ => ?_
  simp [pieceD]
theorem right_ok (T : TX Pg K mg) (h : NetI K N a b qs lp jd) (hlp : lp = qs.length - a - b + (pcs a b (labs a b qs) (a + b).toNat).length) (hjd : jd = decide (((pcs a b (labs a b qs) (a + b).toNat).length : Int) = 1))
    (ha : as.length = 4) (hl : lists.length = 2) (hl2 : ∀ l ∈ lists, l.length ≤ 4) :
    m_f__law_right K [N, .tup [intD a, intD b], pl false qs, .tup [pl false as, .lst false (mL (il false) lists)]] = .ok (.atm (.bl true)) [.jnk, .jnk, .jnk, .jnk] := by
  have hq := h.net.len
  have a8 := h.net.a8
  have b8 := h.net.b8
  have hkl : (qs ++ as).length ≤ 100 := by rw [List.length_append]; omega
  have told := told_ok T h (asked := qs ++ as) (lists := lists) hkl (by omega) fun l hm => by have := hl2 l hm; omega
  have due := due_ok (K := K) h.net hlp hjd (asked := qs ++ as) (lists := lists) hkl (by omega) fun l hm => by have := hl2 l hm; omega
  have fll : fzns (mL (il false) lists) = true := fzns_mL' _ (fun _ => by simp) _
  have an : ∀ d ∈ r0 true a b qs ++ (r1 true a b qs ++ (r2 a b qs (qs ++ as) ++ r3 true a b qs lists)), Ans d := fun d hd => ans_all (as := qs ++ as) (lists := lists) h.net d (by simpa only [List.append_assoc] using hd)
  have pi := piece_loop (K := K) (e0 := N) (e1 := .tup [intD a, intD b]) (e2 := pl false qs) (e3 := .tup [pl false as, .lst false (mL (il false) lists)]) (e4 := pl false (qs ++ as)) (pcs a b (labs a b qs) (a + b).toNat) (fun p hp => pcs_in a8 b8 hp)
  have pn := pcs_len a b (labs a b qs) (a + b).toNat
  have pin : ∀ p ∈ pcs a b (labs a b qs) (a + b).toNat, p.1.length ≤ 8 ∧ p.2.length ≤ 8 := fun p hp => pcs_in a8 b8 hp
  have rl : (r0 true a b qs ++ (r1 true a b qs ++ (r2 a b qs (qs ++ as) ++ r3 true a b qs lists))).length ≤ 900 := by
    rw [List.length_append, List.length_append, List.length_append, r0, r1, r2, r3, flat_len (F := fun x => [cusD true a qs x]) (c := 1) (fun _ => rfl), flat_len (F := fun x => [depD true b qs x]) (c := 1) (fun _ => rfl), flat_len (F := fun p => [idxD a b qs p, .atm (.bl (decide (p ∈ qs)))]) (c := 2) (fun _ => rfl), flat_len (F := fun l => [rchD true a b qs l]) (c := 1) (fun _ => rfl)]
    simp
    omega
  unfold headD at told
  unfold headU at due
  simp only [List.cons_append, List.nil_append, List.append_assoc] at told due
  generalize r0 true a b qs ++ (r1 true a b qs ++ (r2 a b qs (qs ++ as) ++ r3 true a b qs lists)) = RS at *
  generalize pcs a b (labs a b qs) (a + b).toNat = PS at *
  have e2 : fzs (intD a :: intD b :: pl true qs :: intD lp :: .atm (.bl jd) :: intD qs.length :: .atm (.str (wrt a b qs)) :: .lst false (mL (pieceD false) PS) :: RS) = fzs (intD a :: intD b :: pl true qs :: intD lp :: .atm (.bl jd) :: intD qs.length :: .atm (.str (wrt a b qs)) :: .lst true (mL (pieceD true) PS) :: RS) := by
    simp [fz_pieces]
  refine right_core (O0 := pl false as) (A' := pl true (qs ++ as)) (LS := .lst false (mL (il false) lists)) h.o.jn h.f rfl (by simp) rfl (by simp) rfl (by simp [fll]) rfl (by simp) rfl (by simp [fll])
    (by simp [gIx, L2.atI, L2.ixN]) (by simp [gIx, L2.atI, L2.ixN, fll]) (gAdd_pl (by omega)) (by simp) told due rfl e2 ?_ (by simp; omega) (by omega) pi (ans_loop RS an)
  refine same_ok (K := K) 4 _ (.lst 3 _ (by rw [fzs_length]; simp only [List.length_cons]; omega) (fzns_fzs _) fun d hd => ?_)
  rw [fzs_map] at hd
  obtain ⟨d0, hd0, rfl⟩ := List.mem_map.mp hd
  simp only [List.mem_cons] at hd0
  rcases hd0 with rfl | rfl | rfl | rfl | rfl | rfl | rfl | rfl | hd0
  · exact .int _ _
  · exact .int _ _
  · rw [show fz (pl true qs) = pl false qs by simp]
    exact pl_pairs (k := 1) (by omega)
  · exact .int _ _
  · exact .bl _ _
  · exact .int _ _
  · exact .str _ _ (wrt_ok a b qs)
  · rw [fz_lst, fz_pieces]
    refine .lst 2 _ (by simp; omega) (by simp) fun d hd => ?_
    obtain ⟨p, hp, rfl⟩ := List.mem_map.mp hd
    have := pin p hp
    exact .tup 1 _ (by simp) (by simp) fun d hd => by
      simp at hd
      rcases hd with rfl | rfl
      · exact pl_ints (k := 0) (by omega)
      · exact pl_ints (k := 0) (by omega)
  · exact (an _ hd0).pl
end
end Lw
set_option Elab.async false
set_option linter.all false
set_option maxRecDepth 100000
set_option maxHeartbeats 2000000
namespace Lw
open PySem VS
variable {K : PySem.W.Frag} {Pg : Program} {mg : Str → Option Value}
theorem turned_ok {N : D} {a b lp : Int} {qs : List (Int × Int)} {jd : Bool} (h1 : Net a b qs) (n1 : NetO K false N a b qs lp jd) : m_f_Network_turned K [N] = .ok (net K true b a (fl qs)) [.jnk] := by
  have hl := h1.len
  have C := lc_all (g := gT 2 (gsCons (gN 2) (gsCons (gN 1) gsNil))) (te := eDis .tup (aCons (eCp 1) (aCons (eCp 2) aNil))) (vs := [2, 1]) (e0 := [N, .jnk, .jnk]) (en := pairD) (en' := pairD)
    qs (fun p => (p.2, p.1)) (fun p => [N, intD p.2, intD p.1]) (fun ⟨u, v⟩ => by simp) (fun x => rfl) (fun ⟨u, v⟩ hp => by simp) (by omega)
  rw [show qs.map (fun p => (p.2, p.1)) = fl qs from rfl] at C
  have ini := init_ok (K := K) h1.fl
  simp [m_f_Network_turned, fnD_e, b_f_Network_turned, List.replicate, n1.jn, n1.fc, n1.fd, n1.fr, C, ini, maskD]
theorem lps_eq {a b : Int} {ps : List (Int × Int)} : lps a b ps = (srtP ps).length - a - b + (pcs a b (labs a b (srtP ps)) (a + b).toNat).length := by
  unfold lps
  rw [(srtP_perm ps).length_eq]
theorem jd_eq {a b : Int} {ps : List (Int × Int)} (h : Net a b ps) : decide (maxL (labs a b (srtP ps)) = 0) = decide (((pcs a b (labs a b (srtP ps)) (a + b).toNat).length : Int) = 1) := by
  have a1 := h.a1
  have b1 := h.b1
  rw [pcs_roots (by simp)]
  exact joined_iff (labI_labs h.srt) (by simp; omega)
/-- the test of a made network -/
theorem right_net (T : TX Pg K mg) {a b : Int} {ps as : List (Int × Int)} {lists : List (List Int)} (h : Net a b ps) (ha : as.length = 4) (hl : lists.length = 2) (hl2 : ∀ l ∈ lists, l.length ≤ 4) :
    m_f__law_right K [net K false a b ps, .tup [intD a, intD b], pl false (srtP ps), .tup [pl false as, .lst false (mL (il false) lists)]] = .ok (.atm (.bl true)) [.jnk, .jnk, .jnk, .jnk] :=
  right_ok T (netI h) lps_eq (jd_eq h) ha hl hl2
theorem gNe_bl (x y : Bool) : gEq true (.atm (.bl x)) (.atm (.bl y)) = some (.atm (.bl (!decide (x = y)))) := by cases x <;> cases y <;> rfl
theorem world_ok (T : TX Pg K mg) {a b : Int} {ps : List (Int × Int)} (hn : Net a b ps) (n : Int) : ∃ n' : Int, m_f__law_right_world K [.tup [.tup [intD a, intD b], pl false ps], .lst true [intD n]] = .ok (.atm (.bl true)) [.jnk, .lst true [intD n']] := by
  obtain ⟨as1, ls1, n1, k1, k2, k3, o1⟩ := odd_ok (K := K) n a b ⟨hn.a1, hn.a8⟩ ⟨hn.b1, hn.b8⟩
  obtain ⟨as2, ls2, n2, k4, k5, k6, o2⟩ := odd_ok (K := K) n1 b a ⟨hn.b1, hn.b8⟩ ⟨hn.a1, hn.a8⟩
  refine ⟨n2, ?_⟩
  have hs := hn.srt
  have hq := hs.len
  have ini := init_ok (K := K) hn
  have tu := turned_ok (K := K) hs (netO (K := K) (o := false) (a := a) (b := b) (ps := ps))
  have hT : Net b a (fl (srtP ps)) := hs.fl
  have tu2 := turned_ok (K := K) hT.srt (netO (K := K) (o := false) (a := b) (b := a) (ps := fl (srtP ps)))
  have hA : Net a b (fl (srtP (fl (srtP ps)))) := hT.srt.fl
  have eA : srtP (fl (srtP (fl (srtP ps)))) = srtP ps := by
    rw [srtP_congr (fl_perm (srtP_perm (fl (srtP ps)))), fl_fl, srt_srt]
  have R0 := right_net T hn k1 k2 k3
  have R1 := right_net T hT k4 k5 k6
  have R2 := right_net T hA k1 k2 k3
  rw [eA] at R2
  have I0 := netI (K := K) hn
  have I1 := netI (K := K) hT
  have I2 := netI (K := K) hA
  have E01 := eq_net I0 I1
  have E20 := eq_net I2 I0
  have E02 := eq_net I0 I2
  rw [eA] at E20 E02
  have m0 := I0.km "turned" (by decide +kernel)
  have m1 := I1.km "turned" (by decide +kernel)
  have j0 := I0.o.jn
  have j1 := I1.o.jn
  have j2 := I2.o.jn
  have f0 := I0.f
  have f1 := I1.f
  have f2 := I2.f
  have io := I1.o.io
  have C := fun (d0 d1 d2 d3 : D) => lc_all (g := gN 13) (te := eDis .tup (aCons (eOp gIx (eVar 13) (eC (.int 1))) (aCons (eOp gIx (eVar 13) (eC (.int 0))) aNil))) (vs := [13]) (e0 := [d0, d1, d2, d3, pl false (srtP ps), .jnk, .jnk, .jnk, .jnk, .jnk, .jnk, .jnk, .jnk, .jnk]) (en := pairD) (en' := pairD)
    (srtP ps) (fun p => (p.2, p.1)) (fun p => [d0, d1, d2, d3, pl false (srtP ps), .jnk, .jnk, .jnk, .jnk, .jnk, .jnk, .jnk, .jnk, pairD p]) (fun x => rfl) (fun x => rfl) (fun ⟨u, v⟩ hp => by simp [gIx, L2.atI, L2.ixN]) (by omega)
  rw [show (srtP ps).map (fun p => (p.2, p.1)) = fl (srtP ps) from rfl] at C
  have z0 : fz (net K true a b ps) = net K false a b ps := net_fz
  have z1 : fz (net K true b a (fl (srtP ps))) = net K false b a (fl (srtP ps)) := net_fz
  have z2 : fz (net K true a b (fl (srtP (fl (srtP ps))))) = net K false a b (fl (srtP (fl (srtP ps)))) := net_fz
  have es : gEqA [(He.ga K "Network", m_f_Network_eq K)] (.tup [intD a, intD b]) (.tup [intD b, intD a]) = some (.atm (.bl (decide (a = b)))) := by
    have := gEq_pair (a, b) (b, a)
    have e : decide ((a, b) = (b, a)) = decide (a = b) := by
      rw [decide_eq_decide]
      simp
      intro z; exact z.symm
    rw [e] at this
    exact this
  have er : gEqA [(He.ga K "Network", m_f_Network_eq K)] (pl false (srtP ps)) (pl false (srtP (fl (srtP ps)))) = some (.atm (.bl (decide (srtP ps = srtP (fl (srtP ps)))))) := gEq_pairs _ _ _ _
  have hpl : (srtP ps).length ≤ 16 := hq
  have hpl0 := hn.len
  generalize net K true a b ps = N0' at *
  generalize net K true b a (fl (srtP ps)) = N1' at *
  generalize net K true a b (fl (srtP (fl (srtP ps)))) = N2' at *
  generalize net K false a b ps = N0 at *
  generalize net K false b a (fl (srtP ps)) = N1 at *
  generalize net K false a b (fl (srtP (fl (srtP ps)))) = N2 at *
  clear I0 I1 I2 hT hA hs
  have sp : gSorted [pl false ps] = some (pl true (srtP ps)) := gSorted_mp false ps
  have st : gSorted [.lst true (mL pairD (fl (srtP ps)))] = some (pl true (srtP (fl (srtP ps)))) := gSorted_mp true _
  generalize srtP (fl (srtP ps)) = qt at *
  generalize fl (srtP ps) = ft at *
  generalize srtP ps = qs at *
  obtain ⟨DR, hDR⟩ : ∃ DR, DR = D.tup [.tup [intD a, intD b], pl false ps] := ⟨_, rfl⟩
  obtain ⟨S, hS⟩ : ∃ S, S = D.tup [intD a, intD b] := ⟨_, rfl⟩
  obtain ⟨TS, hTS⟩ : ∃ TS, TS = D.tup [intD b, intD a] := ⟨_, rfl⟩
  obtain ⟨O1, hO1⟩ : ∃ O1, O1 = D.tup [pl false as1, .lst false (mL (il false) ls1)] := ⟨_, rfl⟩
  obtain ⟨O2, hO2⟩ : ∃ O2, O2 = D.tup [pl false as2, .lst false (mL (il false) ls2)] := ⟨_, rfl⟩
  have fl1 : fzns (mL (il false) ls1) = true := fzns_mL' _ (fun _ => by simp) _
  have fl2 : fzns (mL (il false) ls2) = true := fzns_mL' _ (fun _ => by simp) _
  have dj : isJ DR = false := by rw [hDR]; rfl
  have df : fzn DR = true := by rw [hDR]; simp
  have d0 : gIx DR (.atm (.int 0)) = some S := by rw [hDR, hS]; simp [gIx, L2.atI, L2.ixN]
  have d1 : gIx DR (.atm (.int 1)) = some (pl false ps) := by rw [hDR]; simp [gIx, L2.atI, L2.ixN]
  have sj : isJ S = false := by rw [hS]; rfl
  have sf : fzn S = true := by rw [hS]; simp
  have sz : fz S = S := fz_id S sf
  have s0 : gIx S (.atm (.int 0)) = some (intD a) := by rw [hS]; simp [gIx, L2.atI, L2.ixN]
  have s1 : gIx S (.atm (.int 1)) = some (intD b) := by rw [hS]; simp [gIx, L2.atI, L2.ixN]
  have tj : isJ TS = false := by rw [hTS]; rfl
  have tf : fzn TS = true := by rw [hTS]; simp
  have tz : fz TS = TS := fz_id TS tf
  have uj : isJ O1 = false := by rw [hO1]; rfl
  have uf : fzn O1 = true := by rw [hO1]; simp [fl1]
  have uz : fz O1 = O1 := fz_id O1 uf
  have vj : isJ O2 = false := by rw [hO2]; rfl
  have vf : fzn O2 = true := by rw [hO2]; simp [fl2]
  have vz : fz O2 = O2 := fz_id O2 vf
  rw [← hS, ← hO1] at R0 R2 o1
  rw [← hTS, ← hO2] at R1 o2
  rw [← hS, ← hTS] at es
  have L := fun (P : D) => forD_rng (g := gN 10) (b := l_f__law_right_world_0 K) (lo := 0) (n := 2) (fun _ => [DR, P, S, TS, pl false qs, pl false qt, O1, O2, N0, N1, .jnk, .jnk, .jnk, .jnk]) (fun i hi => ⟨_, rfl, by
    simp [l_f__law_right_world_0, j0, j1, f0, f1, sj, sf, tj, tf, uj, uf, vj, vf, R0, R1]⟩) rfl
  have hps : ps.length < 16777216 := by omega
  have ht : D.tup [intD b, intD a] = TS := hTS.symm
  have hss : D.tup [.tup [intD a, intD b], pl false ps] = DR := hDR.symm
  rw [hss]
  by_cases hab : a = b
  · subst hab
    by_cases hqq : qs = qt
    · subst hqq
      simp at es er E01 E20 E02
      simp [m_f__law_right_world, fnD_e, b_f__law_right_world, List.replicate, dj, df, d0, d1, sj, sf, sz, s0, s1, tj, tf, tz, uj, uf, uz, vj, vf, vz, ht, sp, st, C, o1, o2, hps, ini, z0, z1, z2, j0, j1, j2, f0, f1, f2, m0, m1, tu, tu2, io, L, es, er, E01, E20, E02, R2, gNe_bl, maskD]
    · simp [hqq] at es er E01 E20 E02
      simp [m_f__law_right_world, fnD_e, b_f__law_right_world, List.replicate, dj, df, d0, d1, sj, sf, sz, s0, s1, tj, tf, tz, uj, uf, uz, vj, vf, vz, ht, sp, st, C, o1, o2, hps, ini, z0, z1, z2, j0, j1, j2, f0, f1, f2, m0, m1, tu, tu2, io, L, es, er, E01, E20, E02, R2, gNe_bl, maskD]
  · simp [hab] at es E01 E20 E02
    simp [m_f__law_right_world, fnD_e, b_f__law_right_world, List.replicate, dj, df, d0, d1, sj, sf, sz, s0, s1, tj, tf, tz, uj, uf, uz, vj, vf, vz, ht, sp, st, C, o1, o2, hps, ini, z0, z1, z2, j0, j1, j2, f0, f1, f2, m0, m1, tu, tu2, io, L, es, E01, E20, E02, R2, gNe_bl, maskD]
end Lw
set_option Elab.async false
set_option linter.all false
set_option maxRecDepth 100000
set_option maxHeartbeats 2000000
namespace Lw
open PySem VS
variable {K : PySem.W.Frag} {Pg : Program} {mg : Str → Option Value}
theorem law_ok (T : TX Pg K mg) (ns : List Int) (hl : ns.length ≤ 63) : ∃ fin, m_f_law K [.scr ns] = .ok (.atm (.bl true)) fin := by
  have hcut : gSl none (some 63) (.scr ns) = some (il true ns) := by
    have e := cutX_take ns 63
    rw [List.take_of_length_le hl] at e
    unfold gSl
    simp only
    rw [show (some (63 : Int)) = some ((63 : Nat) : Int) from rfl, e]
    rfl
  have L0 := forD_nx (g := gN 2) (b := l_f_law_0 K)
    (Inv := fun i e => e = [.scr ns, il false ns, .jnk, .jnk, .jnk]) (rngD 0 2) 0
    [.scr ns, il false ns, .jnk, .jnk, .jnk] rfl (by
      rintro i d e hd rfl
      obtain ⟨rfl, hi⟩ := rngD_get hd
      simp only [Int.zero_add]
      obtain ⟨x, hx⟩ := source_ok (K := K) ns (2 * (i : Int)) (by omega) hl
      obtain ⟨y, hy⟩ := source_ok (K := K) ns (2 * (i : Int) + 1) (by omega) hl
      obtain ⟨a, b, ps, x1, hn, dr⟩ := draw_ok (K := K) x
      obtain ⟨u, x2, u0, u1, tk⟩ := take_ex (K := K) x1 4 (by omega) (by omega)
      have cm : cMul 2 (i : Int) = true := by simp [cMul]
      refine ⟨_, _, rfl, ?_, rfl⟩
      by_cases h3 : u = 3
      · subst h3
        obtain ⟨s, qs, hm, mi⟩ := mirrored_ok (K := K) hn
        obtain ⟨y1, w⟩ := world_ok T hm y
        simp [l_f_law_0, hx, hy, dr, tk, cm, gIx, L2.atI, L2.ixN, mi, w]
      · obtain ⟨y1, w⟩ := world_ok T hn y
        simp [l_f_law_0, hx, hy, dr, tk, cm, h3, w])
  obtain ⟨e0, h0, rfl⟩ := L0
  refine ⟨?_, ?_⟩
  rotate_left
  · simp [m_f_law, fnD_e, b_f_law, List.replicate, hcut, h0, maskD]
    rfl
end Lw
set_option Elab.async false
set_option linter.all false
set_option maxRecDepth 100000
set_option maxHeartbeats 0
namespace Lw
open PySem PySem.Spec PyProof.Rows L2 L2H VS
section
variable {K : PySem.W.Frag} {mg : Str → Option Value} {h : Heap}
theorem topN : (RowL.prog.main.scope.names.lookup ("super" : Str)).isSome = false := by kernel_rfl
theorem rzBadSize (c : obsV hv K = valV hv) (n1 : mg "super" = none) (n2 : mg "isinstance" = none) (n3 : mg "list" = none) (n4 : mg "tuple" = none) (w : World) : Rz RowL.prog w K mg (He.ga K "BadSize") "size" := by
  obtain ⟨cc, cda, kV, doc, pm, an, ct, T⟩ := sv_ex c 0 (prog := RowL.prog) rfl topN rfl
  refine ⟨⟨_, cc, cda, _, _, _, T, sx_mk ⟨rfl, rfl, rfl, rfl, rfl, rfl, rfl, by decide +kernel⟩ T rfl (fun _ => rfl) (fun _ _ => rfl) (by decide) (fun _ => rfl), fun _ _ _ _ _ => trivial⟩, n1, n2, n3, n4⟩
theorem rzNoDepot (c : obsV hv K = valV hv) (n1 : mg "super" = none) (n2 : mg "isinstance" = none) (n3 : mg "list" = none) (n4 : mg "tuple" = none) (w : World) : Rz RowL.prog w K mg (He.ga K "NoDepot") "depot" := by
  obtain ⟨cc, cda, kV, doc, pm, an, ct, T⟩ := sv_ex c 1 (prog := RowL.prog) rfl topN rfl
  refine ⟨⟨_, cc, cda, _, _, _, T, sx_mk ⟨rfl, rfl, rfl, rfl, rfl, rfl, rfl, by decide +kernel⟩ T rfl (fun _ => rfl) (fun _ _ => rfl) (by decide) (fun _ => rfl), fun _ _ _ _ _ => trivial⟩, n1, n2, n3, n4⟩
theorem rzNoCustomer (c : obsV hv K = valV hv) (n1 : mg "super" = none) (n2 : mg "isinstance" = none) (n3 : mg "list" = none) (n4 : mg "tuple" = none) (w : World) : Rz RowL.prog w K mg (He.ga K "NoCustomer") "customer" := by
  obtain ⟨cc, cda, kV, doc, pm, an, ct, T⟩ := sv_ex c 2 (prog := RowL.prog) rfl topN rfl
  refine ⟨⟨_, cc, cda, _, _, _, T, sx_mk ⟨rfl, rfl, rfl, rfl, rfl, rfl, rfl, by decide +kernel⟩ T rfl (fun _ => rfl) (fun _ _ => rfl) (by decide) (fun _ => rfl), fun _ _ _ _ _ => trivial⟩, n1, n2, n3, n4⟩
theorem rzRepeated (c : obsV hv K = valV hv) (n1 : mg "super" = none) (n2 : mg "isinstance" = none) (n3 : mg "list" = none) (n4 : mg "tuple" = none) (w : World) : Rz RowL.prog w K mg (He.ga K "Repeated") "entry" := by
  obtain ⟨cc, cda, kV, doc, pm, an, ct, T⟩ := sv_ex c 3 (prog := RowL.prog) rfl topN rfl
  refine ⟨⟨_, cc, cda, _, _, _, T, sx_mkI ⟨rfl, rfl, rfl, rfl, rfl, rfl, rfl, by decide +kernel⟩ ⟨rfl, rfl, rfl⟩ T rfl (fun _ => rfl) (fun _ _ => rfl) (by decide) (fun _ => rfl), fun H d v p o => ?_⟩, n1, n2, n3, n4⟩
  unfold okI at o
  split at o
  · rename_i i
    exact ⟨i, p.atm⟩
  · cases o
theorem rzTNoRoute (c : obsV hv K = valV hv) (n1 : mg "super" = none) (n4 : mg "tuple" = none) (w : World) : RzT RowL.prog w K mg (He.ga K "NoRoute") "route" := by
  obtain ⟨cc, cda, kV, doc, pm, an, ct, T⟩ := sv_ex c 4 (prog := RowL.prog) rfl topN rfl
  exact ⟨⟨_, cc, cda, _, _, T, sx_mkT ⟨rfl, rfl, rfl, rfl, rfl, rfl, rfl, by decide +kernel⟩ rfl T rfl (fun _ => rfl) (fun _ _ => rfl) (by decide) (fun _ => rfl)⟩, n1, n4⟩
theorem tx_of (X : K.In h) (G : h.Ns mainGlobals mg) (c : obsV hv K = valV hv) : TX RowL.prog K mg := by
  have n1 : mg "super" = none := He.free_ok X G ((sv_d c).fact 15 (f := .free "super") rfl)
  have n2 : mg "isinstance" = none := He.free_ok X G ((sv_d c).fact 8 (f := .free "isinstance") rfl)
  have n3 : mg "list" = none := He.free_ok X G ((sv_d c).fact 16 (f := .free "list") rfl)
  have n4 : mg "tuple" = none := He.free_ok X G ((sv_d c).fact 12 (f := .free "tuple") rfl)
  exact
    { ex := ⟨h, X, G⟩
      c := sv_d c
      pr_f_Network_depots := sv_pr c 0 rfl
      pr_f_Network_customers := sv_pr c 1 rfl
      pr_f_Network_routes := sv_pr c 2 rfl
      pr_f_Network_loops := sv_pr c 3 rfl
      pr_f_Network_joined := sv_pr c 4 rfl
      rz_BadSize := rzBadSize c n1 n2 n3 n4
      rz_NoDepot := rzNoDepot c n1 n2 n3 n4
      rz_NoCustomer := rzNoCustomer c n1 n2 n3 n4
      rz_Repeated := rzRepeated c n1 n2 n3 n4
      rzT_NoRoute := rzTNoRoute c n1 n4
      con_MOST_PLACES := sv_con c 0 rfl
      con_MOST_ROUTES := sv_con c 1 rfl
      xf_NoDepot := (sv_kn c 0 rfl).2.1
      xn_NoDepot := (sv_ex c 1 (prog := RowL.prog) rfl topN rfl).elim fun _ ⟨_, _, _, _, _, _, T⟩ => T.noN
      xf_NoCustomer := (sv_kn c 1 rfl).2.1
      xn_NoCustomer := (sv_ex c 2 (prog := RowL.prog) rfl topN rfl).elim fun _ ⟨_, _, _, _, _, _, T⟩ => T.noN
      xf_NoRoute := (sv_kn c 2 rfl).2.1
      xn_NoRoute := (sv_ex c 4 (prog := RowL.prog) rfl topN rfl).elim fun _ ⟨_, _, _, _, _, _, T⟩ => T.noN
      xf_Repeated := (sv_kn c 3 rfl).2.1
      xn_Repeated := (sv_ex c 3 (prog := RowL.prog) rfl topN rfl).elim fun _ ⟨_, _, _, _, _, _, T⟩ => T.noN
      ins_Network := sv_ins c 0 rfl (He.cls_ok ((sv_d c).fact 0 (f := .cls "Network") rfl))
      xe_NoDepot := (sv_kn c 0 rfl).1
      kit_NoDepot := (sv_kn c 0 rfl).2.2.1
      kiv_NoDepot := (sv_kn c 0 rfl).2.2.2.1
      exm_NoDepot := (sv_kn c 0 rfl).2.2.2.2
      xe_NoCustomer := (sv_kn c 1 rfl).1
      kit_NoCustomer := (sv_kn c 1 rfl).2.2.1
      kiv_NoCustomer := (sv_kn c 1 rfl).2.2.2.1
      exm_NoCustomer := (sv_kn c 1 rfl).2.2.2.2
      xe_NoRoute := (sv_kn c 2 rfl).1
      kit_NoRoute := (sv_kn c 2 rfl).2.2.1
      kiv_NoRoute := (sv_kn c 2 rfl).2.2.2.1
      exm_NoRoute := (sv_kn c 2 rfl).2.2.2.2
      xe_Repeated := (sv_kn c 3 rfl).1
      kit_Repeated := (sv_kn c 3 rfl).2.2.1
      kiv_Repeated := (sv_kn c 3 rfl).2.2.2.1
      exm_Repeated := (sv_kn c 3 rfl).2.2.2.2 }
end
end Lw
open PySem PySem.W PySem.Calls PyProof.Rows
theorem PySem.Challenge.cw_whichdepot_k03_turned_about_holds : PySem.Challenge.rw_whichdepot_k03_turned_about.Holds := by
  w_on; o_law
  refine HandSHeadRun.head_any (r := OpenLaw.row PySem.Challenge.rw_whichdepot_k03_turned_about) (q := view (OpenLaw.row PySem.Challenge.rw_whichdepot_k03_turned_about).prog [76]) (H := Lw.hk) (ob := Lw.ob) (M := 40000) (loose := Lw.loose) (d := HandSHeadRun.topDef (OpenLaw.row PySem.Challenge.rw_whichdepot_k03_turned_about).prog 76) (kwd := []) Lw.ob_eq
    (by kernel_rfl) (fun s => by kernel_rfl) Lw.run (by kernel_rfl) (by kernel_rfl) (by kernel_rfl) (by rfl) (by first | assumption | decide +kernel) (by decide +kernel) ⟨rfl, rfl, rfl, rfl, rfl, by decide +kernel⟩ ?hw ?hc
  case hw => w_witness2
  case hc =>
    refine VS.walk_ofV (l := PySem.Challenge.rw_whichdepot_k03_turned_about) (n := 63) (k := 11) (x := "_law_script") rfl (by decide) (by kernel_rfl) ⟨rfl, by decide, by decide⟩ ?F
    intro w mg fa h Y G hmg0
    obtain ⟨K, KX, c⟩ := Y
    have hmg : mg ("law" : PySem.Str) = some (.ref fa) := by
      have e : (HandSHeadRun.topDef (OpenLaw.row PySem.Challenge.rw_whichdepot_k03_turned_about).prog 76).name = ("law" : PySem.Str) := by kernel_rfl
      rw [← e]
      exact hmg0
    have T := Lw.tx_of KX G c
    obtain ⟨fd, F⟩ := T.def_ 38
    have e := hmg.symm.trans (T.glo 101)
    cases e
    have b := L2.FunD.bindsA (ps := ["_law_script"]) F fun _ _ _ _ _ _ us hl => match us, hl with | [_], _ => rfl
    exact ⟨K, fd, Lw.m_f_law K, KX, VS.sv_nl c, fun s u => b s [u] rfl, fun ns hns => Lw.law_ok T ns hns, fun base B1 B2 => Lw.okL_f_law ((Lw.tx_of (h := base) B1 B2 c)) F⟩
